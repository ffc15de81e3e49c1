/- Parts of the proof: see the text that holds the theorem. -/
import Derived.Test.YtmmplabgfomahaaZ3
set_option linter.all false
open Nat (reduceAdd reduceSub)
set_option maxRecDepth 100000
namespace Go.Ev
open Go
variable [Lib] [aO] [aN] [bS] [bT] [df] [bO] [bP] [cM] [cH] [a7] [bq] [cB] [cC] [fP] [du]
abbrev zX(i j L wl:Nat)(l:List Int):List D:=[.bp 0 0,I i,.ref 1 0 L,.und,.und,.und,.und,.t (tL l),I wl,I j,.und,.und,.und]
theorem zY{W:List (List Int)}{S:List Int}{T:List Bool}{G:List (List Int)}{n:Nat}(hn:n<G.length)(hne:nth G n≠[])(i:Int):
 (.box [.t (.sl (W.map tL)),.t (tL S),.ref 2 0 G.length]:: .arr 1 false 0 (bls T):: .arr 1 false 0 ((esT G (fun n=>3+rk G n) G.length).set n (.ref (3+rk G n) 0 ((nth G n).length+1)))::(aT G G G.length).set (rk G n) (arA (nth G n++[i])):ab)=
 eE W S T (G.set n (nth G n++[i])) (fK G) (aT G (G.set n (nth G n++[i])) G.length++[]):=by
 have e1:=tD (G:=G) (G2:=G.set n (nth G n++[i])) (f:=fun n=>3+rk G n) (f2:=fK G) G.length hn (fun k hk hkn=>by
  rw[bc (fun z=>hkn z.symm)]
  exact⟨Iff.rfl,fun h=>⟨by unfold fK;rw[if_neg h],rfl⟩⟩)
 rw[cK hn,if_neg (by simp)]at e1
 have f:fK G n=3+rk G n:=by unfold fK;rw[if_neg hne]
 rw[f,aLv,List.length_singleton]at e1
 have e2:=zT (G1:=G) (G2:=G.set n (nth G n++[i])) hne G.length hn (fun k hk hkn _=>by rw[bc (fun z=>hkn z.symm)])
 rw[cK hn]at e2
 simp only[eE,e1,e2,List.length_set,List.append_nil]
theorem zZ{W:List (List Int)}{S:List Int}{T:List Bool}{G:List (List Int)}{n:Nat}(hn:n<G.length)(hne:nth G n=[])(i:Int):
 (.box [.t (.sl (W.map tL)),.t (tL S),.ref 2 0 G.length]:: .arr 1 false 0 (bls T):: .arr 1 false 0 ((esT G (fun n=>3+rk G n) G.length).set n (.ref ((aT G G G.length).length+1+1+1) 0 1))::(aT G G G.length++[.arr 1 false 0 [I i]]):ab)=
 eE W S T (G.set n [i]) (fK G) (aT G (G.set n [i]) G.length++[arA (nth (G.set n [i]) n)]):=by
 have e1:=tD (G:=G) (G2:=G.set n [i]) (f:=fun n=>3+rk G n) (f2:=fK G) G.length hn (fun k hk hkn=>by
  rw[bc (fun z=>hkn z.symm)]
  exact⟨Iff.rfl,fun h=>⟨by unfold fK;rw[if_neg h],rfl⟩⟩)
 rw[cK hn,if_neg (by simp)]at e1
 have f:fK G n=(aT G G G.length).length+1+1+1:=by unfold fK;rw[if_pos hne,fj];omega
 rw[f,List.length_singleton]at e1
 have e2:aT G (G.set n [i]) G.length=aT G G G.length:=qf _ fun k hk hke=>by rw[bc (fun z=>by subst z;exact hke hne)]
 rw[cK hn,e2]
 simp only[eE,e1,List.length_set]
 rfl
theorem Aa{G:List (List Int)}{n:Nat}(hn:n<G.length)(hne:nth G n≠[])(i:Int):vu G (G.set n (nth G n++[i])) []:=by
 refine⟨fun m hm=>?_,.inl ⟨rfl,fun m hm=>?_⟩⟩
 · by_cases e:m=n
   · subst e;rw[cK hn];simp
   · rw[bc (fun z=>e z.symm)];exact hm
 · have:n≠m:=fun z=>by subst z;exact hne hm
   rw[bc this];exact hm
theorem Ab{G:List (List Int)}{n:Nat}(hn:n<G.length)(hne:nth G n=[])(i:Int):vu G (G.set n [i]) [arA (nth (G.set n [i]) n)]:=by
 refine⟨fun m hm=>?_,.inr ⟨n,hn,hne,by rw[cK hn];simp,rfl,fun m hm1 hm2=>?_⟩⟩
 · have:n≠m:=fun z=>by subst z;exact hm hne
   rw[bc this];exact hm
 · rw[bc (fun z=>hm1 z.symm)];exact hm2
theorem tF{T:List Bool}{n:Nat}(h:n<T.length):nth (T.set n true) n=true:=by
 unfold nth
 rw[aLl,aLj h];rfl
theorem vA{T:List Bool}{n:Nat}(h:n<T.length){m:Nat}(hm:nth T m=true):nth (T.set n true) m=true:=by
 by_cases e:n=m
 · subst e;exact tF h
 · unfold nth at hm ⊢
   rw[aLl,aLi e,←aLl];exact hm
theorem fN.mono{W:List (List Int)}{S:List Int}{G G2:List (List Int)}{i:Int}{T T2:Nat→Bool}(h:fN W S G i T2 G2)(s:∀n,T n=true→T2 n=true):fN W S G i T G2:=⟨h.gi,h.pm,fun n hn=>h.old n (s n hn),h.clo⟩
theorem Qv{W:List (List Int)}{S:List Int}{G:List (List Int)}(hW:W.length≤1000)(hS:S.length≤1000)(hG:GI W S G)(hc:∀n,(nth G n).length≤1000000)(hwl:∀i,(nth W i).length≤1000000){i:Nat}(hi:i<W.length){T:List Bool}(tl:T.length=S.length)
 (ih:∀T':List Bool,T'.length=S.length→left T'<left T→∀o:Nat,o<W.length→∃r,bD 0 N.ai [.bp 0 0,I o,.ref 1 0 S.length] (cU W S T' G)=some (B r.1,r.2)∧C4 W S G o T' r) (z3 z4 z5 z6 z10 z11 z12:D):
 ∃q,exS bD K.eD ⟨[.bp 0 0,I i,.ref 1 0 S.length,z3,z4,z5,z6,.t (tL (nth W i)),I (nth W i).length,I 0,z10,z11,z12],cU W S T G⟩=some q∧
  ((∃T2:List Bool,q=(.exit 0,⟨zX i (nth W i).length S.length (nth W i).length (nth W i),cU W S T2 G⟩)∧T2.length=S.length∧oo W S G i (Tb T) (Tb T2)∧left T2≤left T)∨
   ∃(T2:List Bool) (G2:List (List Int)) (x:ab) (vs:List D),q=(.ret,⟨vs,eE W S T2 G2 (fK G) (aT G G2 G.length++x)⟩)∧vs[3]?=some (B true)∧T2.length=S.length∧vu G G2 x∧fN W S G i (Tb T) G2):=by
 have gl:=hG.len
 refine uV (fun j st=>∃T':List Bool,T'.length=S.length∧Acc W S G (Tb T) (Tb T')∧left T'≤left T∧(∀q,q<j→∀x:Nat,x<S.length→(x:Int)=nth (nth W i) q→Tb T' x=true)∧st=⟨zX i j S.length (nth W i).length (nth W i),cU W S T' G⟩) (nth W i).length _ ⟨T,tl,Acc.refl _ _ _ _,aLs _,fun q hq=>by omega,by simp only[go_sem,zX,Int.natCast_zero]⟩ ?_ ?_
 · rintro j st hj ⟨T',tl',acc,lf,ws,rfl⟩
   have wg:((nth W i).map (Ev.T.int .i64))[j]?=some (tI (nth (nth W i) j)):=bB _ hj
   have li:=Po (nth (nth W i) j) 0 ((S.length:Int)-1)
   have wb:=hwl i
   have cl:=fW W S T' G
   by_cases cin:0≤nth (nth W i) j∧nth (nth W i) j≤(S.length:Int)-1
   · rw[decide_eq_true cin]at li
     obtain⟨n,hn⟩:=Int.eq_ofNat_of_zero_le cin.1
     rw[hn]at cin wg li
     have hnl:n<S.length:=by omega
     have hw:(n:Int)∈nth W i:=by rw[← hn];exact aLd (gu hj)
     have tg:=JL (T:=T') (n:=n) (by omega)
     have bl:=JK T'
     have bl2:n<(bls T').length:=by omega
     have ho:=nh W S T' G
     have tk:(cU W S T' G).take (3+rk G G.length)=cU W S T' G:=List.take_of_length_le (by omega)
     have k0:(cU W S T' G)[0]?=some (.box [.t (.sl (W.map tL)),.t (tL S),.ref 2 0 G.length]):=rfl
     have k1:(cU W S T' G)[1]?=some (.arr 1 false 0 (bls T')):=rfl
     have k2:(cU W S T' G)[2]?=some (.arr 1 false 0 (esT G (fun n=>3+rk G n) G.length)):=rfl
     have k33:3≤3+rk G G.length:=by omega
     have b0:ltB 0 (3+rk G G.length)=true:=by rw[di];simp;omega
     have b1:ltB 1 (3+rk G G.length)=true:=by rw[di];simp;omega
     cases et:nth T' n with
     | true=>
       rw[et]at tg
       left
       refine⟨⟨zX i (j+1) S.length (nth W i).length (nth W i),cU W S T' G⟩,?_,T',tl',acc,lf,fun q hq x hx hxe=>?_,rfl⟩
       · rw[cl]
         generalize cU W S T' G=K1 at*
         generalize 3+rk G G.length=kL at*
         generalize bls T'=Bs at*
         clear ih ws acc
         simp only[zX]
         simp(disch:=omega)only[go_sem,K.ao,↓reduceIte,wg,li,k0,k1,tg,ho,tk,b0,b1,reduceAdd,reduceSub]
       · by_cases e:q=j
         · subst e
           have:x=n:=by omega
           subst this;exact et
         · exact ws q (by omega) x hx hxe
     | false=>
       rw[et]at tg
       have sg:(bls T').set n (B true)=bls (T'.set n true):=JJ T' n true
       have st1:(cU W S T' G).set 1 (.arr 1 false 0 (bls (T'.set n true)))=cU W S (T'.set n true) G:=rfl
       have l1:=vt (T:=T') (n:=n) (by omega) et
       have tl1:(T'.set n true).length=S.length:=by rw[List.length_set];exact tl'
       have k4:(cU W S (T'.set n true) G)[0]?=some (.box [.t (.sl (W.map tL)),.t (tL S),.ref 2 0 G.length]):=rfl
       have k5:(cU W S (T'.set n true) G)[2]?=some (.arr 1 false 0 (esT G (fun n=>3+rk G n) G.length)):=rfl
       have eg:(esT G (fun n=>3+rk G n) G.length)[n]?=some (vw G n):=by rw[qb G _ G.length (by omega)];rfl
       have sg2:(S.map (Ev.T.int .i64))[n]?=some (tI (nth S n)):=bB _ hnl
       by_cases hf:((nth G n).length:Int)<nth S n
       · right
         have po:=(w7 hG hi hnl hw hf et).mono acc.sub
         have e3:=fV G (fun n=>3+rk G n) G.length
         have lf2:=decide_eq_true hf
         by_cases hne:nth G n=[]
         · have fs:=zZ (W:=W) (S:=S) (T:=T'.set n true) (G:=G) (n:=n) (by omega) hne i
           rw[hne]at lf2 po
           rw[List.nil_append]at po
           have gD:vw G n= .nil:=if_pos hne
           rw[gD]at eg
           have nx:=Ab (G:=G) (n:=n) (by omega) hne (i:Int)
           have fin:∃vs,exS bD K.ao ⟨zX i j S.length (nth W i).length (nth W i),cU W S T' G⟩=some (.ret,⟨vs,eE W S (T'.set n true) (G.set n [(i:Int)]) (fK G) (aT G (G.set n [(i:Int)]) G.length++[arA (nth (G.set n [(i:Int)]) n)])⟩)∧vs[3]?=some (B true):=by
            generalize eE W S (T'.set n true) (G.set n [(i:Int)]) (fK G) (aT G (G.set n [(i:Int)]) G.length++[arA (nth (G.set n [(i:Int)]) n)])=K3 at*
            clear ih ws acc po nx
            apply Exists.intro
            apply And.intro
            · simp(disch:=omega)only[go_sem,K.ao,↓reduceIte,wg,li,k0,k1,tg,ho,tk,b0,b1,sg,st1,k4,k5,eg,sg2,lf2,bl2,e3,reduceAdd,reduceSub]
              subst fs
              rfl
            · rfl
           obtain⟨vs,f1,f2⟩:=fin
           exact⟨_,f1,by simp,.inr ⟨T'.set n true,_,_,vs,rfl,f2,tl1,nx,po⟩⟩
         · have fs:=zY (W:=W) (S:=S) (T:=T'.set n true) (G:=G) (n:=n) (by omega) hne i
           have gD:vw G n= .ref (3+rk G n) 0 (nth G n).length:=if_neg hne
           rw[gD]at eg
           have nx:=Aa (G:=G) (n:=n) (by omega) hne (i:Int)
           have ka:(cU W S (T'.set n true) G)[3+rk G n]?=some (arA (nth G n)):=(tC W S (T'.set n true) G).hf n (by omega) hne
           rw[show arA (nth G n++[(i:Int)])= .arr 1 false 0 (ints (nth G n)++[D.t (Ev.T.int .i64 i)])by simp[arA,ints]]at fs
           have cb:=hc n
           have sx:∀X,(cU W S (T'.set n true) G).set (3+rk G n) X= .box [.t (.sl (W.map tL)),.t (tL S),.ref 2 0 G.length]:: .arr 1 false 0 (bls (T'.set n true)):: .arr 1 false 0 (esT G (fun n=>3+rk G n) G.length)::(aT G G G.length).set (rk G n) X:=fun X=>by
            rw[show 3+rk G n=rk G n+1+1+1 by omega];rfl
           have fin:∃vs,exS bD K.ao ⟨zX i j S.length (nth W i).length (nth W i),cU W S T' G⟩=some (.ret,⟨vs,eE W S (T'.set n true) (G.set n (nth G n++[(i:Int)])) (fK G) (aT G (G.set n (nth G n++[(i:Int)])) G.length++[])⟩)∧vs[3]?=some (B true):=by
            generalize eE W S (T'.set n true) (G.set n (nth G n++[(i:Int)])) (fK G) (aT G (G.set n (nth G n++[(i:Int)])) G.length++[])=K3 at*
            clear ih ws acc po nx
            apply Exists.intro
            apply And.intro
            · simp(disch:=omega)only[go_sem,K.ao,↓reduceIte,wg,li,k0,k1,tg,ho,tk,b0,b1,sg,st1,k4,k5,eg,sg2,lf2,bl2,e3,ka,sx,reduceAdd,reduceSub]
              subst fs
              rfl
            · rfl
           obtain⟨vs,f1,f2⟩:=fin
           exact⟨_,f1,by simp,.inr ⟨T'.set n true,_,_,vs,rfl,f2,tl1,nx,po⟩⟩
       · obtain⟨q,hq,hc2⟩:=Wg hW hS hG hc hi hnl hw et (T1:=T'.set n true) (fun m hm=>vA (by omega) hm) (tF (by omega)) tl1 (fun T2 h2 h3=>ih T2 h2 (by omega)) j (nth W i).length .und .und .und
         have lf2:=decide_eq_false hf
         have e3:=fV G (fun n=>3+rk G n) G.length
         have cb:=hc n
         rcases hc2 with⟨T2,rfl,tl2,acc2,lf3,ws2⟩ | ⟨T2,G2,x,vs,rfl,v3,tl2,nx,po⟩
         · left
           refine⟨⟨zX i (j+1) S.length (nth W i).length (nth W i),cU W S T2 G⟩,?_,T2,tl2,acc.trans (acc2.num (by omega) (by omega) ws2),by omega,fun q hq x hx hxe=>?_,rfl⟩
           · rw[cl]
             have ho4:=nh W S T2 G
             have tk4:(cU W S T2 G).take (3+rk G G.length)=cU W S T2 G:=List.take_of_length_le (by have:=fW W S T2 G;omega)
             generalize cU W S T2 G=K4 at*
             generalize cU W S (T'.set n true) G=K2 at*
             generalize cU W S T' G=K1 at*
             generalize 3+rk G G.length=kL at*
             generalize bls (T'.set n true)=Bs2 at*
             generalize bls T'=Bs at*
             clear ih ws acc acc2 ws2
             by_cases hne:nth G n=[]
             · have gD:vw G n= .nil:=if_pos hne
               rw[hne]at hf hq
               have hz:¬((0:Int)<nth S n):=hf
               rw[gD]at eg hq
               rw[List.length_nil,Int.natCast_zero]at hq
               simp(disch:=omega)only[go_sem,K.ao,↓reduceIte,wg,li,k0,k1,tg,ho,tk,b0,b1,sg,st1,k4,k5,eg,sg2,hz,bl2,hq,e3,ho4,tk4,reduceAdd,reduceSub]
               rfl
             · have gD:vw G n= .ref (3+rk G n) 0 (nth G n).length:=if_neg hne
               rw[gD]at eg hq
               simp(disch:=omega)only[go_sem,K.ao,↓reduceIte,wg,li,k0,k1,tg,ho,tk,b0,b1,sg,st1,k4,k5,eg,sg2,lf2,bl2,hq,e3,ho4,tk4,reduceAdd,reduceSub]
               rfl
           · by_cases e:q=j
             · subst e
               have:x=n:=by omega
               subst this;exact acc2.sub _ (tF (by omega))
             · exact acc2.sub _ (vA (by omega) (ws q (by omega) x hx hxe))
         · right
           have fin:exS bD K.ao ⟨zX i j S.length (nth W i).length (nth W i),cU W S T' G⟩=some (.ret,⟨vs,eE W S T2 G2 (fK G) (aT G G2 G.length++x)⟩):=by
            generalize eE W S T2 G2 (fK G) (aT G G2 G.length++x)=K4 at*
            generalize cU W S (T'.set n true) G=K2 at*
            generalize cU W S T' G=K1 at*
            generalize 3+rk G G.length=kL at*
            generalize bls (T'.set n true)=Bs2 at*
            generalize bls T'=Bs at*
            clear ih ws acc po nx
            by_cases hne:nth G n=[]
            · have gD:vw G n= .nil:=if_pos hne
              rw[hne]at hf hq
              have hz:¬((0:Int)<nth S n):=hf
              rw[gD]at eg hq
              rw[List.length_nil,Int.natCast_zero]at hq
              simp(disch:=omega)only[go_sem,K.ao,↓reduceIte,wg,li,k0,k1,tg,ho,tk,b0,b1,sg,st1,k4,k5,eg,sg2,hz,bl2,hq,e3,reduceAdd,reduceSub]
            · have gD:vw G n= .ref (3+rk G n) 0 (nth G n).length:=if_neg hne
              rw[gD]at eg hq
              simp(disch:=omega)only[go_sem,K.ao,↓reduceIte,wg,li,k0,k1,tg,ho,tk,b0,b1,sg,st1,k4,k5,eg,sg2,lf2,bl2,hq,e3,reduceAdd,reduceSub]
           exact⟨_,fin,by simp,.inr ⟨T2,G2,x,vs,rfl,v3,tl2,nx,po.mono acc.sub⟩⟩
   · rw[decide_eq_false cin]at li
     left
     refine⟨⟨zX i (j+1) S.length (nth W i).length (nth W i),cU W S T' G⟩,?_,T',tl',acc,lf,fun q hq x hx hxe=>?_,rfl⟩
     · have ho:=nh W S T' G
       have tk:(cU W S T' G).take (3+rk G G.length)=cU W S T' G:=List.take_of_length_le (by omega)
       have k0:(cU W S T' G)[0]?=some (.box [.t (.sl (W.map tL)),.t (tL S),.ref 2 0 G.length]):=rfl
       rw[cl]
       generalize cU W S T' G=K1 at*
       have k3:3≤3+rk G G.length:=by omega
       generalize 3+rk G G.length=kL at*
       have b0:ltB 0 kL=true:=by rw[di];simp;omega
       have b1:ltB 1 kL=true:=by rw[di];simp;omega
       clear ih ws acc
       simp(disch:=omega)only[go_sem,K.ao,↓reduceIte,wg,li,k0,ho,tk,b0,b1,reduceAdd,reduceSub]
       rfl
     · by_cases e:q=j
       · subst e;exact absurd ⟨by omega,by omega⟩ cin
       · exact ws q (by omega) x hx hxe
 · rintro st ⟨T',tl',acc,lf,ws,rfl⟩
   refine⟨(.exit 0,⟨zX i (nth W i).length S.length (nth W i).length (nth W i),cU W S T' G⟩),?_,by simp,.inl ⟨T',rfl,tl',⟨acc.sub,acc.clo,fun x hx hw=>?_⟩,lf⟩⟩
   · generalize cU W S T' G=K1
     simp(disch:=omega)only[go_sem,K.ao,↓reduceIte,reduceAdd,reduceSub]
   · rw[Int.toNat_natCast]at hw
     obtain⟨q,hq⟩:=aLf.1 hw
     have ql:=(aLe.1 hq).1
     exact ws q ql x hx (by have:=gu ql;rw[hq]at this;exact(Option.some.inj this))
theorem C6{W:List (List Int)}{S:List Int}{G:List (List Int)}(hW:W.length≤1000)(hS:S.length≤1000)(hG:GI W S G)(hc:∀n,(nth G n).length≤1000000)(hwl:∀i,(nth W i).length≤1000000):∀(k:Nat) (T:List Bool),left T≤k→T.length=S.length→∀i:Nat,i<W.length→
 ∃r,bD 0 N.ai [.bp 0 0,I i,.ref 1 0 S.length] (cU W S T G)=some (B r.1,r.2)∧C4 W S G i T r:=by
 intro k
 induction k using Nat.strongRecOn with
 | ind k IH=>
   intro T hk tl i hi
   obtain⟨q,hq,hc2⟩:=Qv hW hS hG hc hwl hi tl (fun T2 h2 h3 o ho=>IH (left T2) (by omega) T2 (aLs _) h2 o ho) (B false) .und .und .und .und .und .und
   have k0:(cU W S T G)[0]?=some (.box [.t (.sl (W.map tL)),.t (tL S),.ref 2 0 G.length]):=rfl
   have wg:(W.map tL)[i]?=some (tL (nth W i)):=by
    unfold nth
    rw[aLn,aLc hi,aLl,aLc hi];rfl
   have cl:=fW W S T G
   have wb:=hwl i
   rcases hc2 with⟨T2,rfl,tl2,pn,lf⟩ | ⟨T2,G2,x,vs,rfl,v3,tl2,nx,po⟩
   · refine⟨(false,cU W S T2 G),bI K.cm rfl ?_,.inr ⟨T2,rfl,pn,by omega,lf⟩⟩
     have fn:=Qt (W:=W) (S:=S) (T:=T2) (G:=G)
     rw[cl]
     generalize cU W S T2 G=K2 at*
     generalize cU W S T G=K1 at*
     generalize 3+rk G G.length=kL at*
     clear IH
     simp(disch:=omega)only[go_sem,K.ai,↓reduceIte,k0,wg,hq,fn,reduceAdd,reduceSub]
   · refine⟨(true,eE W S T2 G2 (fK G) (aT G G2 G.length++x)),bI K.cm rfl ?_,.inl ⟨G2,T2,x,rfl,po,nx,by omega⟩⟩
     have fn:=Qu (W:=W) (S:=S) (T:=T2) (G:=G) (G2:=G2) (x:=x) (by have:=po.gi.len;have:=hG.len;omega) nx
     rw[cl]
     generalize eE W S T2 G2 (fK G) (aT G G2 G.length++x)=K2 at*
     generalize cU W S T G=K1 at*
     generalize 3+rk G G.length=kL at*
     clear IH
     simp(disch:=omega)only[go_sem,K.ai,↓reduceIte,k0,wg,hq,fn,v3,reduceAdd,reduceSub]
end Go.Ev
namespace Go.Ev
open Go
def C7(s:Int):Int:=max 0 (min s 12)
def Ac(S:List Int)(got:List Int)(x:Int):List Int:=if 0≤x∧x<S.length∧x∉got then got++[x]else got
def fZ(S:List Int)(got:List Int)(l:List Int):List Int:=l.foldl (Ac S) got
def eK(S:List Int)(got:List Int)(L:List (List Int)):List Int:=L.foldl (fZ S) got
def cG(S:List Int)(got:List Int):Int:=(got.map fun x=>C7 (nth S x.toNat)).sum
def qv(S:List Int)(L:List (List Int)):Int:=(L.length:Int)-cG S (eK S [] L)
theorem vB{S got:List Int}{x y:Int}:y∈Ac S got x↔y∈got∨(y=x∧0≤x∧x<S.length):=by
 unfold Ac
 split
 · rename_i h
   rw[List.mem_append,List.mem_singleton]
   constructor
   · rintro (a | a)
     · exact .inl a
     · exact .inr ⟨a,h.1,h.2.1⟩
   · rintro (a | a)
     · exact .inl a
     · exact .inr a.1
 · rename_i h
   constructor
   · exact .inl
   · rintro (a | ⟨rfl,a,b⟩)
     · exact a
     · exact Classical.byContradiction fun n=>h ⟨a,b,n⟩
theorem Ad{S got:List Int}{x:Int}(h:got.Nodup):(Ac S got x).Nodup:=by
 unfold Ac
 split
 · rename_i k
   rw[List.nodup_append]
   exact⟨h,by simp,fun a ha b hb e=>by rw[List.mem_singleton.1 hb]at e;subst e;exact k.2.2 ha⟩
 · exact h
theorem vC{S:List Int}{y:Int}:∀ {l got:List Int},y∈fZ S got l↔y∈got∨(y∈l∧0≤y∧y<S.length)
 | [],got=>by simp[fZ]
 | x::l,got=>by
   have ih:=vC (S:=S) (y:=y) (l:=l) (got:=Ac S got x)
   rw[show fZ S got (x::l)=fZ S (Ac S got x) l from rfl,ih,vB,List.mem_cons]
   constructor
   · rintro ((a | ⟨rfl,a,b⟩) | ⟨a,b⟩)
     · exact .inl a
     · exact .inr ⟨.inl rfl,a,b⟩
     · exact .inr ⟨.inr a,b⟩
   · rintro (a | ⟨rfl | a,b⟩)
     · exact .inl (.inl a)
     · exact .inl (.inr ⟨rfl,b⟩)
     · exact .inr ⟨a,b⟩
theorem Ae{S:List Int}:∀ {l got:List Int},got.Nodup→(fZ S got l).Nodup
 | [],got,h=>h
 | x::l,got,h=>Ae (l:=l) (Ad h)
theorem qh{S:List Int}{y:Int}:∀ {L:List (List Int)} {got:List Int},y∈eK S got L↔y∈got∨((∃l∈L,y∈l)∧0≤y∧y<S.length)
 | [],got=>by simp[eK]
 | x::l,got=>by
   have ih:=qh (S:=S) (y:=y) (L:=l) (got:=fZ S got x)
   rw[show eK S got (x::l)=eK S (fZ S got x) l from rfl,ih,vC]
   constructor
   · rintro ((a | ⟨a,b⟩) | ⟨⟨l2,a,b⟩,c⟩)
     · exact .inl a
     · exact .inr ⟨⟨x,List.mem_cons_self,a⟩,b⟩
     · exact .inr ⟨⟨l2,List.mem_cons_of_mem _ a,b⟩,c⟩
   · rintro (a | ⟨⟨l2,a,b⟩,c⟩)
     · exact .inl (.inl a)
     · rcases List.mem_cons.1 a with rfl | a
       · exact .inl (.inr ⟨b,c⟩)
       · exact .inr ⟨⟨l2,a,b⟩,c⟩
theorem Af{S:List Int}:∀ {L:List (List Int)} {got:List Int},got.Nodup→(eK S got L).Nodup
 | [],got,h=>h
 | x::l,got,h=>Af (L:=l) (Ae h)
theorem tG{α:Type}{f g:α→Int}:∀ {l:List α},(∀x∈l,f x≤g x)→(l.map f).sum≤(l.map g).sum
 | [],_=>Int.le_refl _
 | x::l,h=>by
   have:=tG (l:=l) fun y hy=>h y (List.mem_cons_of_mem _ hy)
   have:=h x List.mem_cons_self
   simp only[List.map_cons,List.sum_cons];omega
theorem jW{α β:Type}(f:α→List β):∀l:List α,((l.flatMap f).length:Int)=(l.map fun x=>((f x).length:Int)).sum
 | []=>rfl
 | x::l=>by
   simp only[List.flatMap_cons,aLv,List.map_cons,List.sum_cons,←jW f l];omega
theorem qi{G:List (List Int)}{n:Nat}(h:¬n<G.length):nth G n=[]:=by
 unfold nth
 rw[aLl,aLm (by omega)];rfl
theorem HM.Fb{W:List (List Int)}{S:List Int}{G:List (List Int)}(h:HM W S G)(n:Nat):(nth G n).length≤W.length:=by
 by_cases l:n<G.length
 · have gl:=h.len
   have nd:(nth G n).Nodup:=by
    have e:G=G.take n++nth G n::G.drop (n+1):=by
     have:nth G n=G[n]:=by unfold nth;rw[aLl,aLc l];rfl
     rw[this,←List.drop_eq_getElem_cons l,List.take_append_drop]
    have:=h.nd
    rw[iI,e]at this
    simp only[List.flatten_append,List.flatten_cons]at this
    exact(List.nodup_append.1 (List.nodup_append.1 this).2.1).1
   have key:=bK (b:=(List.range W.length).map fun(i:Nat)=>(i:Int)) nd fun x hx=>by
    obtain⟨a,b, -⟩:=h.wnt n (by omega) x hx
    exact List.mem_map.2 ⟨x.toNat,aLu.2 (by omega),by omega⟩
   simpa using key
 · rw[qi l];exact Nat.zero_le _
abbrev aK(W:List (List Int))(X:List Nat):List (List Int):=X.map fun i=>nth W i
theorem vD{X:List Nat}(h:X.Nodup):(X.map fun(i:Nat)=>(i:Int)).Nodup:=by
 rw[List.Nodup,List.pairwise_map]
 exact h.imp fun{a b} k e=>k (by omega)
theorem JM{W:List (List Int)}{S:List Int}{G:List (List Int)}(h:HM W S G)(hW:W.length≤12){X:List Nat}(nd:X.Nodup)(hX:∀i∈X,i<W.length):(((kJ G).length:Nat):Int)+qv S (aK W X)≤W.length:=by
 classical
 have gl:=h.len
 have hg:∀y,y∈eK S [] (aK W X)↔((∃l∈aK W X,y∈l)∧0≤y∧y<S.length):=fun y=>by rw[qh];simp
 have e:(qv S (aK W X))=(X.length:Int)-cG S (eK S [] (aK W X)):=by unfold qv aK;rw[List.length_map]
 rw[e]
 generalize eK S [] (aK W X)=got at*
 have sp:=kI (fun n=>(n:Int)∈got) G G.length
 have ndU:=(h.nd.sublist (by unfold kJ;exact uQ (fun n=>(n:Int)∈got) G G.length))
 have ndN:=(h.nd.sublist (by unfold kJ;exact uQ (fun n=>¬(n:Int)∈got) G G.length))
 have a1:((LU (fun n=>(n:Int)∈got) G G.length).length:Int)≤cG S got:=by
  have k1:=bK (b:=got.flatMap fun x=>nth G x.toNat) ndU fun i hi=>by
   obtain⟨n,hn,hu,hm⟩:=jA.1 hi
   exact List.mem_flatMap.2 ⟨_,hu,by rw[Int.toNat_natCast];exact hm⟩
  have k2:=jW (fun x:Int=>nth G x.toNat) got
  have k3:(got.map fun x=>((nth G x.toNat).length:Int)).sum≤cG S got:=tG fun x hx=>by
   obtain⟨-,x0,x1⟩:=(hg x).1 hx
   unfold C7
   by_cases en:nth G x.toNat=[]
   · rw[en];simp only[List.length_nil];omega
   · have:=h.cap _ (by omega) en
     have:=h.Fb x.toNat
     omega
  omega
 have a2:(LU (fun n=>¬(n:Int)∈got) G G.length).length+X.length≤W.length:=by
  have k1:=bK (a:=LU (fun n=>¬(n:Int)∈got) G G.length++X.map fun(i:Nat)=>(i:Int)) (b:=(List.range W.length).map fun(i:Nat)=>(i:Int)) (by
   rw[List.nodup_append]
   refine⟨ndN,vD nd,fun a ha b hb e=>?_⟩
   subst e
   obtain⟨n,hn,hu,hm⟩:=jA.1 ha
   obtain⟨i,hi,rfl⟩:=List.mem_map.1 hb
   obtain⟨w1,w2,w3⟩:=h.wnt n (by omega) _ hm
   rw[Int.toNat_natCast]at w3
   exact hu ((hg _).2 ⟨⟨_,List.mem_map.2 ⟨i,hi,rfl⟩,w3⟩,by omega,by omega⟩)) (fun x hx=>by
   rcases List.mem_append.1 hx with k | k
   · obtain⟨n,hn,hu,hm⟩:=jA.1 k
     obtain⟨w1,w2,w3⟩:=h.wnt n (by omega) _ hm
     exact List.mem_map.2 ⟨x.toNat,aLu.2 (by omega),by omega⟩
   · obtain⟨i,hi,rfl⟩:=List.mem_map.1 k
     exact List.mem_map.2 ⟨i,aLu.2 (hX i hi),rfl⟩)
  simpa using k1
 unfold kJ
 omega
open Classical in
theorem MI.r8{W:List (List Int)}{S:List Int}{G:List (List Int)}{c:Nat}{U:Nat→Prop}(h:MI W S G W.length c U)(hW:W.length≤12):(W.length:Int)≤c+qv S (aK W ((List.range W.length).filter fun i=>p4 W S i U)):=by
 have gl:=h.st.len
 generalize hX:(List.range W.length).filter (fun i:Nat=>decide (p4 W S i U))=X
 have mX:∀i,i∈X↔(i<W.length∧p4 W S i U):=fun i=>by subst hX;rw[List.mem_filter,aLu,decide_eq_true_iff]
 have hg:∀y,y∈eK S [] (aK W X)↔((∃l∈aK W X,y∈l)∧0≤y∧y<S.length):=fun y=>by rw[qh];simp
 have ng:(eK S [] (aK W X)).Nodup:=Af (by simp)
 have e:(qv S (aK W X))=(X.length:Int)-cG S (eK S [] (aK W X)):=by unfold qv aK;rw[List.length_map]
 rw[e]
 generalize eK S [] (aK W X)=got at*
 have gU:∀x∈got,0≤x∧x.toNat<S.length∧U x.toNat:=fun x hx=>by
  obtain⟨⟨l,hl,hm⟩,x0,x1⟩:=(hg x).1 hx
  obtain⟨i,hi,rfl⟩:=List.mem_map.1 hl
  exact⟨x0,by omega,((mX i).1 hi).2 x.toNat (by omega) (by rw[Int.toNat_of_nonneg x0,Int.toNat_natCast];exact hm)⟩
 have sp:=kI U G G.length
 have a1:cG S got≤((LU U G G.length).length:Int):=by
  have k1:=bK (a:=got.flatMap fun x=>nth G x.toNat) (b:=LU U G G.length) (by
   rw[List.Nodup,List.pairwise_flatMap]
   have pf:=h.st.nd
   rw[iI,List.Nodup,List.pairwise_flatten]at pf
   refine⟨fun x hx=>?_,ng.imp_of_mem fun{x y} hx hy hne a ha b hb e=>?_⟩
   · exact pf.1 _ (by
      have l:x.toNat<G.length:=by have:=(gU x hx).2.1;omega
      unfold nth
      rw[aLl,aLc l]
      exact List.getElem_mem l)
   · subst e
     obtain⟨x0,xl, -⟩:=gU x hx
     obtain⟨y0,yl, -⟩:=gU y hy
     have ga:∀n,n<G.length→G[n]?=some (nth G n):=fun n l=>by
      unfold nth
      rw[aLl,aLc l];rfl
     have pp:=List.pairwise_iff_getElem.1 pf.2
     have gx:=ga x.toNat (by omega)
     have gy:=ga y.toNat (by omega)
     rw[aLc (by omega),Option.some_inj]at gx gy
     rcases Nat.lt_trichotomy x.toNat y.toNat with k | k | k
     · exact pp x.toNat y.toNat (by omega) (by omega) k a (by rw[gx];exact ha) a (by rw[gy];exact hb) rfl
     · exact hne (by omega)
     · exact pp y.toNat x.toNat (by omega) (by omega) k a (by rw[gy];exact hb) a (by rw[gx];exact ha) rfl) fun i hi=>by
   obtain⟨x,hx,hm⟩:=List.mem_flatMap.1 hi
   obtain⟨x0,xl,xu⟩:=gU x hx
   exact jA.2 ⟨_,by omega,xu,hm⟩
  have k2:=jW (fun x:Int=>nth G x.toNat) got
  have k3:cG S got≤(got.map fun x=>((nth G x.toNat).length:Int)).sum:=tG fun x hx=>by
   obtain⟨x0,xl,xu⟩:=gU x hx
   have:=(h.clo _ xl xu).1
   unfold C7
   omega
  omega
 have a2:W.length≤(LU (fun n=>¬U n) G G.length).length+X.length:=by
  have k1:=bK (a:=(List.range W.length).map fun(i:Nat)=>(i:Int)) (b:=LU (fun n=>¬U n) G G.length++X.map fun(i:Nat)=>(i:Int)) (vD List.nodup_range) fun x hx=>by
   obtain⟨i,hi,rfl⟩:=List.mem_map.1 hx
   have hi:=aLu.1 hi
   have inX:p4 W S i U→(i:Int)∈LU (fun n=>¬U n) G G.length++X.map fun(i:Nat)=>(i:Int):=fun k=>
    List.mem_append.2 (.inr (List.mem_map.2 ⟨i,(mX i).2 ⟨hi,k⟩,rfl⟩))
   rcases h.out i hi with k | k
   · obtain⟨n,hn, -,hm⟩:=jA.1 k
     by_cases u:U n
     · exact inX ((h.clo n (by omega) u).2 _ hm)
     · exact List.mem_append.2 (.inl (jA.2 ⟨n,hn,u,hm⟩))
   · exact inX k
  simpa using k1
 have hc:=h.cnt
 unfold kJ at hc
 omega
def qw(s i:Nat):Bool:=decide (s / 2 ^ i % 2=1)
def ax(n s:Nat):List Nat:=(List.range n).filter (qw s)
def fw(W:List (List Int))(S:List Int):Nat→Int
 | 0=>0
 | j+1=>max (fw W S j) (qv S (aK W (ax W.length (j+1))))
def fy(W:List (List Int))(S:List Int):Int:=(W.length:Int)-fw W S (2 ^ W.length-1)
theorem kU(W:List (List Int))(S:List Int):∀j,0≤fw W S j
 | 0=>Int.le_refl _
 | j+1=>by have:=kU W S j;rw[fw];omega
theorem vE(W:List (List Int))(S:List Int){s:Nat}(h0:0<s):∀ {j},s≤j→qv S (aK W (ax W.length s))≤fw W S j
 | 0,h=>by omega
 | j+1,h=>by
   rw[fw]
   by_cases e:s=j+1
   · subst e;omega
   · have:=vE W S h0 (j:=j) (by omega);omega
theorem qj{W:List (List Int)}{S:List Int}{b:Int}(hb:0≤b)(h:∀s,qv S (aK W (ax W.length s))≤b):∀j,fw W S j≤b
 | 0=>hb
 | j+1=>by have:=qj hb h j;have:=h (j+1);rw[fw];omega
theorem Ag(p:Nat→Bool):∀n,∃s,s<2 ^ n∧∀i,i<n→qw s i=p i
 | 0=>⟨0,by simp,fun i h=>by omega⟩
 | n+1=>by
   obtain⟨s,a,b⟩:=Ag p n
   have pw:2 ^ (n+1)=2 ^ n*2:=Nat.pow_succ ..
   have lowb:∀i,i<n→qw (s+2 ^ n) i=qw s i:=fun i hi=>by
    obtain⟨k,hk⟩:∃k,n=i+1+k:=⟨n-(i+1),by omega⟩
    unfold qw
    have e:2 ^ n=2 ^ i*(2*2 ^ k):=by rw[hk,Nat.pow_add,Nat.pow_succ,Nat.mul_assoc]
    rw[e,Nat.add_mul_div_left _ _ (Nat.two_pow_pos i),Nat.add_mod,Nat.mul_mod_right]
    simp
   cases hp:p n with
   | false=>
     refine⟨s,by omega,fun i hi=>?_⟩
     by_cases e:i=n
     · subst e
       rw[hp]
       unfold qw
       rw[Nat.div_eq_of_lt a];rfl
     · exact b i (by omega)
   | true=>
     refine⟨s+2 ^ n,by omega,fun i hi=>?_⟩
     by_cases e:i=n
     · subst e
       rw[hp]
       unfold qw
       rw[Nat.add_div_right _ (Nat.two_pow_pos _),Nat.div_eq_of_lt a];rfl
     · rw[lowb i (by omega)];exact b i (by omega)
theorem C8(n s:Nat):(ax n s).Nodup:=List.nodup_range.filter _
theorem vF{n s i:Nat}(h:i∈ax n s):i<n:=aLu.1 (List.mem_filter.1 h).1
theorem ov(p:Nat→Bool)(n:Nat):∃s,s<2 ^ n∧(List.range n).filter p=ax n s:=by
 obtain⟨s,a,b⟩:=Ag p n
 exact⟨s,a,List.filter_congr fun i hi=>(b i (aLu.1 hi)).symm⟩
theorem lY(n:Nat):ax n 0=[]:=by
 unfold ax
 rw[List.filter_eq_nil_iff]
 intro i _
 simp[qw]
theorem MI.fy{W:List (List Int)}{S:List Int}{G:List (List Int)}{c:Nat}{U:Nat→Prop}(h:MI W S G W.length c U)(hW:W.length≤12):(c:Int)=fy W S:=by
 classical
 have l1:=h.r8 hW
 obtain⟨s,s1,s2⟩:=ov (fun i=>decide (p4 W S i U)) W.length
 have up:∀s,qv S (aK W (ax W.length s))≤W.length-c:=fun s=>by
  have:=JM h.st hW (C8 W.length s) fun i hi=>vF hi
  rw[h.cnt]at this;omega
 have hc:(c:Int)≤W.length:=by
  have:=up 0
  rw[lY]at this
  simp only[qv,aK,List.map_nil,List.length_nil,eK,List.foldl_nil,cG,List.sum_nil]at this
  omega
 have e:((List.range W.length).filter fun i:Nat=>@decide (p4 W S i U) (Classical.propDecidable _))=ax W.length s:=by
  rw[← s2]
 unfold Ev.fy
 have lo:=qj (by omega) up (2 ^ W.length-1)
 have l2:(W.length:Int)≤c+qv S (aK W (ax W.length s)):=by rw[← e];exact l1
 by_cases z:s=0
 · subst z
   have nn:=kU W S (2 ^ W.length-1)
   rw[lY]at l2
   simp only[qv,aK,List.map_nil,List.length_nil,eK,List.foldl_nil,cG,List.sum_nil]at l2
   omega
 · have:=vE W S (s:=s) (by omega) (j:=2 ^ W.length-1) (by omega)
   omega
end Go.Ev
namespace Go.Ev
open Go
variable [Lib] [aO] [aN] [bS] [bT] [df] [bO] [bP] [cM] [cH] [a7] [bq] [cB] [cC] [fP] [du]
theorem Fc{α:Type}:∀ {sel:List Nat} {l os:List α},(aA l sel os).length=l.length
 | [],l,os=>by simp[aA]
 | a::sel,l,[]=>by simp[aA]
 | a::sel,l,o::os=>by rw[aA,Fc];simp
theorem Fe{α:Type}:∀ {sel:List Nat} {l os:List α} {i:Nat},i∉sel→(aA l sel os)[i]?=l[i]?
 | [],l,os,i,_=>by simp[aA]
 | a::sel,l,[],i,_=>by simp[aA]
 | a::sel,l,o::os,i,h=>by
   simp only[List.mem_cons,not_or]at h
   rw[aA,Fe h.2,aLi (fun e=>h.1 e.symm)]
theorem Qw{α:Type}:∀ {sel:List Nat} {l os:List α} {i j:Nat},sel.Nodup→os.length=sel.length→sel[j]?=some i→i<l.length→(aA l sel os)[i]?=os[j]?
 | [],l,os,i,j,_,_,h,_=>by simp at h
 | a::sel,l,[],i,j,_,hl,_,_=>by simp at hl
 | a::sel,l,o::os,i,j,hn,hl,hj,hi=>by
   simp only[List.nodup_cons]at hn
   rw[aA]
   cases j with
   | zero=>
     simp at hj;subst hj
     rw[Fe hn.1,aLj hi];rfl
   | succ j=>
     simp at hj hl
     rw[Qw hn.2 hl hj (by simpa using hi)];rfl
structure JN(K:ab)(b g:Nat)(f:Nat→Nat)(W:List (List Int))(S:List Int)(G:List (List Int)):Prop where
 hb:K[b]?=some (.box [.t (.sl (W.map tL)),.t (tL S),.ref g 0 G.length])
 hg:K[g]?=some (.arr 1 false 0 (esT G f G.length))
 hf:∀n,n<G.length→nth G n≠[]→K[f n]?=some (arA (nth G n))
 bg:b≠g
 inj:∀n m,n<G.length→m<G.length→nth G n≠[]→nth G m≠[]→f n=f m→n=m
 fb:∀n,n<G.length→nth G n≠[]→f n≠b∧f n≠g
theorem tH{α:Type}{K:List α}{i:Nat}{o:α}(h:K[i]?=some o):i<K.length:=(aLe.1 h).1
theorem Ff{G:List (List Int)}{f:Nat→Nat}:∀m,(∀n k,n<m→k<m→nth G n≠[]→nth G k≠[]→f n=f k→n=k)→(idT G f m).Nodup
 | 0,_=>by simp[idT]
 | m+1,h=>by
   rw[idT]
   refine List.nodup_append.2 ⟨Ff m fun n k hn hk=>h n k (by omega) (by omega),by split<;>simp,fun a ha c hc=>?_⟩
   split at hc
   · simp at hc
   · rename_i hm
     rw[List.mem_singleton.1 hc]
     obtain⟨n,hn,hne,rfl⟩:=lX.1 ha
     intro e
     have:=h n m (by omega) (by omega) hne hm e
     omega
theorem tJ{K:ab}{i:Nat}{o:Obj}(h:K[i]?=some o)(x:ab):(K++x)[i]?=some o:=by
 rw[aLg (tH h)];exact h
theorem Qx{l:List Nat}(h:l.Nodup){i j a:Nat}(hi:l[i]?=some a)(hj:l[j]?=some a):i=j:=by
 have li:=tH hi
 have lj:=tH hj
 rw[aLc li]at hi
 rw[aLc lj]at hj
 have e:=Option.some.inj (hi.trans hj.symm)
 rcases Nat.lt_trichotomy i j with k | k | k
 · exact absurd e (List.pairwise_iff_getElem.1 h i j li lj k)
 · exact k
 · exact absurd e.symm (List.pairwise_iff_getElem.1 h j i lj li k)
theorem JN.rep{K:ab}{b g:Nat}{f:Nat→Nat}{W:List (List Int)}{S:List Int}{G:List (List Int)}(h:JN K b g f W S G)(T:List Bool):r7 (K++[.arr 1 false 0 (bls T)]) b K.length g f W S T G where
 hb:=tJ h.hb _
 hq:=by rw[aLh (aLs _),Nat.sub_self];rfl
 hg:=tJ h.hg _
 hf n hn hne:=tJ (h.hf n hn hne) _
 nd:=by
  have lb:=tH h.hb
  have lg:=tH h.hg
  have bg:=h.bg
  have nf:∀x,(∀n,n<G.length→nth G n≠[]→f n≠x)→x∉idT G f G.length:=fun x hx hm=>by
   obtain⟨n,a,c,e⟩:=lX.1 hm
   exact hx n a c e.symm
  have n1:=nf b fun n hn hne=>(h.fb n hn hne).1
  have n2:=nf g fun n hn hne=>(h.fb n hn hne).2
  have n3:=nf K.length fun n hn hne e=>by
   have:=tH (h.hf n hn hne)
   omega
  have nd:=Ff G.length h.inj
  simp only[List.cons_append,List.nil_append,List.nodup_cons,List.mem_cons,not_or]
  exact⟨⟨by omega,bg,n1⟩,⟨by omega,n3⟩,n2,nd⟩
def f2K(K:ab)(G:List (List Int))(f:Nat→Nat)(n:Nat):Nat:=if nth G n=[]then K.length else f n
theorem Ah(b q g:Nat)(G:List (List Int))(f:Nat→Nat):([b,q,g]++idT G f G.length).length=3+rk G G.length:=by
 rw[aLv,lV];rfl
theorem rG{K:ab}{b q g:Nat}{f:Nat→Nat}{W:List (List Int)}{S:List Int}{T T2:List Bool}{G G2:List (List Int)}{x:ab}(h:r7 K b q g f W S T G)(gl:G2.length=G.length)(hx:vu G G2 x)(r:Bool):
 ft K K ([b,q,g]++idT G f G.length) (B r,eE W S T2 G2 (fK G) (aT G G2 G.length++x))=some (B r,aA K ([b,q,g]++idT G f G.length) ([.box [.t (.sl (W.map tL)),.t (tL S),.ref g 0 G2.length],.arr 1 false 0 (bls T2),.arr 1 false 0 (esT G2 (f2K K G f) G2.length)]++aT G G2 G.length)++x):=by
 have sl:=Ah b q g G f
 generalize hsel:[b,q,g]++idT G f G.length=sel at*
 have bk:∀i,i<3+rk G G.length→aM sel K.length i=sel[i]?:=fun i hi=>by unfold aM;rw[if_pos (by omega)]
 have bn:aM sel K.length (3+rk G G.length)=some K.length:=by unfold aM;rw[if_neg (by omega),sl];simp
 have s2:aM sel K.length 2=some g:=by rw[bk 2 (by omega),←hsel];rfl
 have e:ft K K sel (B r,eE W S T2 G2 (fK G) (aT G G2 G.length++x))=(ren (aM sel K.length) depth (B r)).bind fun r'=>(aB (aS (aM sel K.length)) (eE W S T2 G2 (fK G) (aT G G2 G.length++x))).map fun os=>(r',aA K sel (os.take sel.length)++os.drop sel.length):=by
  unfold ft
  have:sel.isEmpty=false:=by
   rw[← hsel];rfl
  simp only[this,Bool.false_and,aLt,if_false]
  rfl
 have fk:∀n,n<G.length→nth G2 n≠[]→aM sel K.length (fK G n)=some (f2K K G f n):=fun n hn hne=>by
  unfold fK f2K
  by_cases c:nth G n=[]
  · rw[if_pos c,if_pos c];exact bn
  · rw[if_neg c,if_neg c]
    have:=ot G (n:=n) (m:=G.length) hn c
    rw[bk _ (by omega),←hsel]
    exact h.tB hn c
 have e1:aB (ren (aM sel K.length) 8) (esT G2 (fK G) G2.length)=some (esT G2 (f2K K G f) G2.length):=ou (u:=aM sel K.length) (f2:=f2K K G f) G2.length (fun n hn hne=>fk n (by omega) hne)
 have e2:aB (ren (aM sel K.length) 8) (bls T2)=some (bls T2):=gL _ _
 have e3:aB (aS (aM sel K.length)) (aT G G2 G.length++x)=some (aT G G2 G.length++x):=by
  refine pZ fun o ho=>?_
  obtain⟨l,rfl⟩:=vv hx o ho
  simp only[aS,ints,gL,aLw]
 have e4:aB (aS (aM sel K.length)) (eE W S T2 G2 (fK G) (aT G G2 G.length++x))=some (.box [.t (.sl (W.map tL)),.t (tL S),.ref g 0 G2.length]:: .arr 1 false 0 (bls T2):: .arr 1 false 0 (esT G2 (f2K K G f) G2.length)::(aT G G2 G.length++x)):=by
  simp only[eE,aB,aS,ren,depth,s2,aLw,aLq]
  rw[e1,e2,e3];rfl
 rw[e,e4]
 simp only[ren,depth,aLq,aLw,sl]
 have al:=fj G G2 G.length
 have t1:∀(A B C:Obj),(A::B::C::(aT G G2 G.length++x)).take (3+rk G G.length)=[A,B,C]++aT G G2 G.length:=fun A B C=>by
  rw[show A::B::C::(aT G G2 G.length++x)=([A,B,C]++aT G G2 G.length)++x by simp]
  rw[List.take_left' (by rw[aLv,al];rfl)]
 have t2:∀(A B C:Obj),(A::B::C::(aT G G2 G.length++x)).drop (3+rk G G.length)=x:=fun A B C=>by
  rw[show A::B::C::(aT G G2 G.length++x)=([A,B,C]++aT G G2 G.length)++x by simp]
  rw[List.drop_left' (by rw[aLv,al];rfl)]
 rw[t1,t2]
theorem ow{K:ab}{b q g:Nat}{f:Nat→Nat}{W:List (List Int)}{S:List Int}{T T2:List Bool}{G G2:List (List Int)}{x:ab}(h:r7 K b q g f W S T G)(gl:G2.length=G.length)(hx:vu G G2 x):
 JN (aA K ([b,q,g]++idT G f G.length) ([.box [.t (.sl (W.map tL)),.t (tL S),.ref g 0 G2.length],.arr 1 false 0 (bls T2),.arr 1 false 0 (esT G2 (f2K K G f) G2.length)]++aT G G2 G.length)++x) b g (f2K K G f) W S G2:=by
 have nd:=h.nd
 have al:=fj G G2 G.length
 have sl:=Ah b q g G f
 have il:=lV G f G.length
 have pl:∀os,(aA K ([b,q,g]++idT G f G.length) os).length=K.length:=fun os=>Fc
 have nf:∀n,n<G.length→nth G n≠[]→f n≠b∧f n≠g:=fun n hn hne=>by
  have m:f n∈idT G f G.length:=lX.2 ⟨n,hn,hne,rfl⟩
  have:=(List.nodup_append.1 nd).2.2
  exact⟨fun e=>this b (by simp) (f n) m e.symm,fun e=>this g (by simp) (f n) m e.symm⟩
 have inj:∀n m,n<G.length→m<G.length→nth G n≠[]→nth G m≠[]→f n=f m→n=m:=fun n m hn hm h1 h2 e=>by
  have n2:=(List.nodup_append.1 nd).2.1
  have a:=qa G f h1 _ hn
  have c:=qa G f h2 _ hm
  rw[e]at a
  have:rk G n=rk G m:=by
   have la:=tH a
   have lc:=tH c
   exact Qx n2 a c
  rcases Nat.lt_trichotomy n m with k | k | k
  · have:=ot G k h1;omega
  · exact k
  · have:=ot G k h2;omega
 have ol:∀A B C:Obj,([A,B,C]++aT G G2 G.length).length=([b,q,g]++idT G f G.length).length:=fun A B C=>by
  rw[sl,aLv,al];rfl
 have at_:∀(A B C:Obj) (j i:Nat) (o:Obj),([b,q,g]++idT G f G.length)[j]?=some i→i<K.length→([A,B,C]++aT G G2 G.length)[j]?=some o→(aA K ([b,q,g]++idT G f G.length) ([A,B,C]++aT G G2 G.length)++x)[i]?=some o:=fun A B C j i o hj hi ho=>by
  rw[aLg (by rw[pl];exact hi),Qw nd (ol A B C) hj hi];exact ho
 refine⟨at_ _ _ _ 0 b _ rfl (tH h.hb) rfl,at_ _ _ _ 2 g _ rfl (tH h.hg) rfl,fun n hn hne=>?_,?_,fun n m hn hm h1 h2 e=>?_,fun n hn hne=>?_⟩
 · unfold f2K
   by_cases c:nth G n=[]
   · rw[if_pos c,aLh (by rw[pl];exact aLs _),pl,Nat.sub_self]
     rcases hx.new with⟨_,e⟩ | ⟨n0,_,_,_,e,k⟩
     · exact absurd (e n c) hne
     · by_cases d:n=n0
       · subst d;rw[e];rfl
       · exact absurd (k n d c) hne
   · rw[if_neg c]
     refine at_ _ _ _ (3+rk G n) (f n) _ (h.tB (by omega) c) (tH (h.hf n (by omega) c)) ?_
     rw[aLh (by simp),show 3+rk G n-[_,_,_].length=rk G n by simp]
     exact vq G G2 c _ (by omega)
 · intro e
   have:([b,q,g]:List Nat).Nodup:=(List.nodup_append.1 nd).1
   simp at this
   omega
 · unfold f2K at e
   have one:∀n,n<G2.length→nth G2 n≠[]→nth G n=[]→∀m,m<G2.length→nth G2 m≠[]→nth G m=[]→n=m:=fun n hn hne hne2 m hm hme hme2=>by
    rcases hx.new with⟨_,e⟩ | ⟨n0,_,_,_,e,k⟩
    · exact absurd (e n hne2) hne
    · have a:n=n0:=Classical.byContradiction fun d=>hne (k n d hne2)
      have c:m=n0:=Classical.byContradiction fun d=>hme (k m d hme2)
      omega
   by_cases c:nth G n=[]<;>by_cases d:nth G m=[]
   · exact one n hn h1 c m hm h2 d
   · rw[if_pos c,if_neg d]at e
     have:=tH (h.hf m (by omega) d);omega
   · rw[if_neg c,if_pos d]at e
     have:=tH (h.hf n (by omega) c);omega
   · rw[if_neg c,if_neg d]at e
     exact inj n m (by omega) (by omega) c d e
 · unfold f2K
   by_cases c:nth G n=[]
   · rw[if_pos c]
     have:=tH h.hb
     have:=tH h.hg
     omega
   · rw[if_neg c];exact nf n (by omega) c
theorem vu.refl(G:List (List Int)):vu G G []:=⟨fun _ h=>h,.inl ⟨rfl,fun _ h=>h⟩⟩
theorem C9(n:Nat):left (List.replicate n false)=n:=by simp[left]
theorem Ai{K:ab}{b g:Nat}{f:Nat→Nat}{W:List (List Int)}{S:List Int}{G:List (List Int)}(h:JN K b g f W S G)(hW:W.length≤1000)(hS:S.length≤1000)(hwl:∀i,(nth W i).length≤1000000){i c:Nat}(hi:i<W.length){U:Nat→Prop}(mi:MI W S G i c U):
 ∃r K2 f2 G2 U2,yM (K++[.arr 1 false 0 (bls (List.replicate S.length false))]) bD N.ai 0 [2] [.bp b 0,I i,.ref K.length 0 S.length]=some (B r,K2)∧JN K2 b g f2 W S G2∧MI W S G2 (i+1) (if r then c+1 else c) U2:=by
 have hG:=mi.st.toGI
 have hc:∀n,(nth G n).length≤1000000:=fun n=>by have:=mi.st.Fb n;omega
 have rt:=h.rep (List.replicate S.length false)
 obtain⟨r,hr,dn⟩:=C6 hW hS hG hc hwl S.length (List.replicate S.length false) (by rw[C9];exact aLs _) (by simp) i hi
 have t0:∀n,Tb (List.replicate S.length false) n=false:=fun n=>by
  show nth _ _=_
  unfold nth
  rw[aLl,List.getElem?_replicate]
  split<;>rfl
 rcases dn with⟨G2,T2,x,rfl,po,nx,_⟩ | ⟨T2,rfl,pn,_,_⟩
 · refine⟨true,_,_,G2,U,?_,ow (T2:=T2) rt (by rw[po.gi.len,hG.len]) nx,mi.ok po⟩
   rw[rt.call i S.length,hr,aLq]
   exact rG (T2:=T2) rt (by rw[po.gi.len,hG.len]) nx true
 · refine⟨false,_,_,G,fun n=>U n∨Tb T2 n=true,?_,ow (T2:=T2) rt rfl (vu.refl G),mi.no t0 pn⟩
   rw[rt.call i S.length,hr,aLq]
   have:=rG (T2:=T2) rt rfl (vu.refl G) false
   rw[← this]
   have e1:esT G (fun n=>3+rk G n) G.length=esT G (fK G) G.length:=kT _ fun n hn=>⟨Iff.rfl,fun hne=>⟨by unfold fK;rw[if_neg hne],rfl⟩⟩
   simp only[cU,eE,e1,List.append_nil]
theorem ni(n m:Nat):nth (List.replicate n ([]:List Int)) m=[]:=by
 unfold nth
 rw[aLl,List.getElem?_replicate]
 split<;>rfl
theorem vG(n:Nat)(f:Nat→Nat):∀m,esT (List.replicate n []) f m=List.replicate m .nil
 | 0=>rfl
 | m+1=>by
   rw[esT,vG n f m,ni,if_pos rfl,List.replicate_succ']
theorem Aj(W:List (List Int))(S:List Int):JN [.arr 1 false 0 (List.replicate S.length .nil),.box [.t (.sl (W.map tL)),.t (tL S),.ref 0 0 S.length]] 1 0 (fun _=>0) W S (List.replicate S.length []) where
 hb:=by rw[List.length_replicate];rfl
 hg:=by rw[vG,List.length_replicate];rfl
 hf n hn hne:=absurd (ni _ _) hne
 bg:=by omega
 inj n m _ _ hne:=absurd (ni _ _) hne
 fb n _ hne:=absurd (ni _ _) hne
theorem Da{W:List (List Int)}{S:List Int}(hW:W.length≤1000)(hS:S.length≤1000)(hwl:∀i,(nth W i).length≤1000000):
 ∃c:Nat,bD 0 N.aQ [.t (.sl (W.map tL)),.t (tL S)] []=some (I c,[])∧(∃(G:List (List Int)) (U:Nat→Prop),MI W S G W.length c U)∧c≤W.length:=by
 have loop:∃q,exS bD K.jC ⟨[.t (.sl (W.map tL)),.t (tL S),I 0,.bp 1 0,I 0,.und,I W.length,I 0],[.arr 1 false 0 (List.replicate S.length .nil),.box [.t (.sl (W.map tL)),.t (tL S),.ref 0 0 S.length]]⟩=some q∧
  ∃(c:Nat) (J:ab),q=(.exit 0,⟨[.und,.t (tL S),.und,.bp 1 0,I c,.und,I W.length,I W.length],J⟩)∧(∃(G:List (List Int)) (U:Nat→Prop),MI W S G W.length c U)∧c≤W.length:=by
  refine uV (fun j st=>∃(c:Nat) (J:ab) (f:Nat→Nat) (G:List (List Int)) (U:Nat→Prop),JN J 1 0 f W S G∧MI W S G j c U∧c≤j∧st=⟨[.und,.t (tL S),.und,.bp 1 0,I c,.und,I W.length,I j],J⟩) W.length _ ⟨0,_,_,_,_,Aj W S,MI.zero W S,aLs _,by simp only[go_sem,Int.natCast_zero]⟩ ?_ ?_
  · rintro j st hj ⟨c,J,f,G,U,rg,mi,cj,rfl⟩
    left
    obtain⟨r,J2,f2,G2,U2,oc,rg2,mi2⟩:=Ai rg hW hS hwl hj mi
    refine⟨⟨[.und,.t (tL S),.und,.bp 1 0,I ((if r then c+1 else c:Nat):Int),.und,I W.length,I (j+1:Nat)],J2⟩,?_,_,J2,f2,G2,U2,rg2,mi2,by split<;>omega,rfl⟩
    rw[show bls (List.replicate S.length false)=List.replicate S.length (.t (.bool false))by simp[bls]]at oc
    have k0:=rg.hb
    clear rg rg2 mi mi2
    generalize W.length=wl at*
    cases r with
    | true=>
      simp(disch:=omega)only[go_sem,K.dN,↓reduceIte,oc,reduceAdd,reduceSub]
    | false=>
      simp(disch:=omega)only[go_sem,K.dN,↓reduceIte,oc,reduceAdd,reduceSub]
  · rintro st ⟨c,J,f,G,U,rg,mi,cj,rfl⟩
    refine⟨(.exit 0,⟨[.und,.t (tL S),.und,.bp 1 0,I c,.und,I W.length,I W.length],J⟩),?_,by simp,c,J,rfl,⟨G,U,mi⟩,cj⟩
    clear rg mi
    generalize W.length=wl at*
    simp(disch:=omega)only[go_sem,K.dN,↓reduceIte,reduceAdd,reduceSub]
 obtain⟨q,hq,c,J,rfl,mo,cw⟩:=loop
 refine⟨c,bI K.gQ rfl ?_,mo,cw⟩
 clear mo
 simp(disch:=omega)only[go_sem,K.aQ,↓reduceIte,hq,reduceAdd,reduceSub]
theorem kV{W:List (List Int)}{S:List Int}(hW:W.length≤12)(hS:S.length≤1000)(hwl:∀i,(nth W i).length≤1000000):
 bD 0 N.aQ [.t (.sl (W.map tL)),.t (tL S)] []=some (I (fy W S),[])∧∃c:Nat,fy W S=c∧yZ W S c∧c≤W.length:=by
 obtain⟨c,a,⟨G,U,b⟩,d⟩:=Da (by omega) hS hwl
 have e:=b.fy hW
 rw[← e]
 exact⟨a,c,rfl,b.YH,d⟩
end Go.Ev
namespace Go.Ev.K
open Go.Ev
def ef:C:= (.seq (.ite [m v4,m v0,u (.ln l0),u (.bin .lss l2 l0)] [] 0 .skip (.exit 0)) (.seq (.blk 1 (.ite [m v1,m v4,u (.cv .u64 l0),u (.bin .shr l2 l0),u (.bin .and l0 (.i 1)),u (.bin .eql l0 (.i 1))] [] 0 (.reg [m v3,m v0,m v4,a 1 l1 l0,g l0,u (.bs [.l 0] 1),u (.app l5 l0 true 1),x 3 l0] []) .skip)) (.reg [m v4,u (.bin .add l0 (.i 1)),x 4 l0] [])))
def kW:C:= .loop true [2] K.ef
def cD:Fn:= { dj:=2,vars:=[0,1,4,5,6],body:=(q [w 2 (.mv (.c (.nil)))] [] (q [w 3 (.nw 1)] [] (.seq (q [x 4 (.i 0)] [] (.blk 0 K.kW)) (q [m v3,x 2 l0] [] .ret)))),res:=[(2,none)]}
def eh:C:= (.seq (.ite [m v3,m v0,u (.ln l0),u (.bin .lss l2 l0)] [] 0 .skip (.exit 0)) (.seq (.blk 1 (.ite [m v0,m v3,a 1 l1 l0,g l0,m v1,m v3,a 1 l1 l0,g l0,u (.bin .neq l4 l0)] [] 0 (q [m v0,m v3,a 1 l1 l0,g l0,m v1,m v3,a 1 l1 l0,g l0,u (.bin .lss l4 l0),x 2 l0] [] .ret) .skip)) (.reg [m v3,u (.bin .add l0 (.i 1)),x 3 l0] [])))
def kX:C:= .loop true [2] K.eh
def b5:Fn:= { dj:=2,vars:=[0,1,4,5],body:=(q [x 2 (.b false)] [] (.seq (q [x 3 (.i 0)] [] (.blk 0 K.kX)) (q [x 2 (.b false)] [] .ret))),res:=[(2,none)]}
def aD:Fn:= { dj:=1,vars:=[0,2],body:=(q [w 1 (.mv (.c (.nil)))] [] (q [m v0,m v0,u (.ln l0),m v0,u (.ln l0),u (.s3 l4 l2 l0),x 1 l0] [] .ret)),res:=[(1,none)]}
def aC:Fn:= { dj:=1,vars:=[2],body:= .fail,res:=[(0,none)],prim:=[5,N.af]}
end Go.Ev.K
namespace Go.Ev
class kY [Lib]:Prop where
 iQ:Lib.fs N.cD=some K.cD
 iR:Lib.fs N.b5=some K.b5
 c9:Lib.fs N.aD=some K.aD
 bU:Lib.fs N.aC=some K.aC
namespace K
variable [Lib] [kY]
theorem iQ:Lib.fs N.cD=some K.cD:=kY.iQ
theorem iR:Lib.fs N.b5=some K.b5:=kY.iR
theorem c9:Lib.fs N.aD=some K.aD:=kY.c9
theorem bU:Lib.fs N.aC=some K.aC:=kY.bU
end K
end Go.Ev
namespace Go.Ev
open Go
variable [Lib] [aO] [aN] [bS] [bT] [df] [bO] [bP] [cM] [cH] [a7] [bq] [cB] [cC] [fP] [du] [kY]
theorem jd(j:Nat)(h:j<1000000):IntKind.u64.wrap (j:Int)=j:=by
 simp only[IntKind.wrap,IntKind.bits,IntKind.signed];simp;omega
theorem tK(s i:Nat)(hi:i≤64)(H:ab):cP H .shr (some (I s)) (some (.t (.int .u64 i)))=some (I ((s / 2 ^ i:Nat):Int),H):=by
 have h:cP H .shr (some (.t (.int .i64 s))) (some (.t (.int .u64 (i:Int))))=some (.t (.int .i64 ((s:Int).fdiv (2 ^ min (i:Int).toNat IntKind.i64.bits))),H):=yI _ _ _ _ _ (by omega)
 have e:min (i:Int).toNat IntKind.i64.bits=i:=by
  have:IntKind.i64.bits=64:=rfl
  rw[this];omega
 rw[e]at h
 rw[show((s:Int).fdiv (2 ^ i))=((s / 2 ^ i:Nat):Int)by rw[Int.fdiv_eq_ediv_of_nonneg _ (Int.pow_nonneg (by omega)),Int.natCast_ediv,Int.natCast_pow];rfl]at h
 exact h
theorem tM(x:Nat)(hx:x<2 ^ 62)(H:ab):cP H .and (some (I x)) (some (I 1))=some (I ((x % 2:Nat):Int),H):=by
 rw[yJ]
 congr 4
 have e:(BitVec.ofInt IntKind.i64.bits (x:Int) &&& BitVec.ofInt IntKind.i64.bits 1).toNat=x % 2:=by
  show(BitVec.ofInt 64 (x:Int) &&& BitVec.ofInt 64 1).toNat=x % 2
  rw[BitVec.toNat_and,BitVec.ofInt_natCast,BitVec.toNat_ofNat,Nat.mod_eq_of_lt (by omega),show(BitVec.ofInt 64 1).toNat=1 from rfl,Nat.and_one_is_mod]
 rw[e]
 exact bY (by omega) (by omega)
theorem tN(n:Nat)(hn:n≤12)(H:ab):cP H .shl (some (I 1)) (some (.t (.int .u64 n)))=some (I ((2 ^ n:Nat):Int),H):=by
 have h:cP H .shl (some (.t (.int .i64 1))) (some (.t (.int .u64 (n:Int))))=some (.t (.int .i64 (IntKind.i64.wrap (1*2 ^ min (n:Int).toNat IntKind.i64.bits))),H):=yH _ _ _ _ _ (by omega)
 have e:min (n:Int).toNat IntKind.i64.bits=n:=by
  have:IntKind.i64.bits=64:=rfl
  rw[this];omega
 rw[e,Int.one_mul]at h
 have l:2 ^ n≤2 ^ 12:=Nat.pow_le_pow_right (by omega) hn
 have c:((2:Int) ^ n)=((2 ^ n:Nat):Int):=by rw[Int.natCast_pow];rfl
 rw[c]at h
 clear c e
 generalize 2 ^ n=x at*
 have wk:IntKind.i64.wrap (x:Int)=x:=bY (by omega) (by omega)
 rw[wk]at h
 exact h
theorem lZ(j s:Nat):ax (j+1) s=ax j s++(if qw s j=true then [j]else []):=by
 unfold ax
 rw[List.range_succ,List.filter_append]
 congr 1
 by_cases c:qw s j=true
 · rw[if_pos c,List.filter_cons_of_pos c];rfl
 · rw[if_neg c,List.filter_cons_of_neg c];rfl
theorem tO(s i:Nat):(s / 2 ^ i % 2:Nat)=if qw s i=true then 1 else 0:=by
 unfold qw
 by_cases c:s / 2 ^ i % 2=1
 · rw[if_pos (by simpa using c),c]
 · rw[if_neg (by simpa using c)];omega
theorem vH{W:List (List Int)}(hW:W.length≤12){s:Nat}(hs:s<1000000):bD 0 N.cD [.t (.sl (W.map tL)),I s] []=some (.t (.sl ((aK W (ax W.length s)).map tL)),[]):=by
 refine bI K.iQ rfl ?_
 have lp:∀z2:D,exS bD K.kW ⟨[.t (.sl (W.map tL)),I s,z2,.ref 0 0 0,I 0],[.arr 1 false 0 []]⟩=
  some (.exit 0,⟨[.t (.sl (W.map tL)),I s,.und,.ref 0 0 (ax W.length s).length,I W.length],[.arr 1 false 0 (((aK W (ax W.length s)).map tL).map .t)]⟩):=by
  intro z2
  refine ea (fun j=>⟨[.t (.sl (W.map tL)),I s,.und,.ref 0 0 (ax j s).length,I j],[.arr 1 false 0 (((aK W (ax j s)).map tL).map .t)]⟩) W.length rfl ?_ ?_ (by simp)
  · intro j hj
    have wg:=bB (l:=W) tL hj
    have wu:=jd j (by omega)
    have sh:=tK s j (by omega)
    have dl:s / 2 ^ j<2 ^ 62:=by have:=Nat.div_le_self s (2 ^ j);omega
    have an:=tM (s / 2 ^ j) dl
    rw[tO]at an
    have ml:(aK W (ax j s)).length=(ax j s).length:=List.length_map _
    have ll:(ax j s).length≤j:=by
     have:=List.length_filter_le (qw s) (List.range j)
     rw[List.length_range]at this;exact this
    rw[lZ]
    by_cases c:qw s j=true
    · rw[if_pos c]at an ⊢
      simp only[aK,List.map_append,List.map_cons,List.map_nil,aLv,List.length_singleton]at ml ⊢
      generalize (ax j s).map (fun i=>nth W i)=R at*
      generalize (ax j s).length=rl at*
      subst ml
      generalize s / 2 ^ j=q at*
      generalize nth W j=x at*
      simp(disch:=omega)only[go_sem,K.ef,↓reduceIte,wu,sh,an,wg,reduceAdd,reduceSub]
    · rw[if_neg c]at an ⊢
      rw[List.append_nil]
      generalize aK W (ax j s)=R at*
      generalize (ax j s).length=rl at*
      subst ml
      generalize s / 2 ^ j=q at*
      simp(disch:=omega)only[go_sem,K.ef,↓reduceIte,wu,sh,an,wg,reduceAdd,reduceSub]
  · simp(disch:=omega)only[go_sem,K.ef,↓reduceIte,reduceAdd,reduceSub]
 have ml:(aK W (ax W.length s)).length=(ax W.length s).length:=List.length_map _
 generalize aK W (ax W.length s)=R at*
 generalize (ax W.length s).length=rl at*
 subst ml
 simp(disch:=omega)only[go_sem,K.cD,↓reduceIte,lp,reduceAdd,reduceSub]
theorem tP(s:Int):0≤C7 s∧C7 s≤12:=by unfold C7;omega
theorem kZ(S:List Int):∀got:List Int,0≤cG S got∧cG S got≤12*got.length
 | []=>by simp[cG]
 | x::r=>by
   have:=kZ S r
   have:=tP (nth S x.toNat)
   simp only[cG,List.map_cons,List.sum_cons,List.length_cons]at*
   omega
theorem rH(S got:List Int)(x:Int):cG S (got++[x])=cG S got+C7 (nth S x.toNat):=by
 simp[cG]
theorem tQ{S got:List Int}(h:got.Nodup)(hm:∀x∈got,0≤x∧x<S.length):got.length≤S.length:=by
 have:=bK (b:=(List.range S.length).map fun(i:Nat)=>(i:Int)) h fun x hx=>by
  obtain⟨a,b⟩:=hm x hx
  exact List.mem_map.2 ⟨x.toNat,aLu.2 (by omega),by omega⟩
 simpa using this
structure fo(S got:List Int):Prop where
 nd:got.Nodup
 mem:∀x∈got,0≤x∧x<S.length
theorem fo.step{S got:List Int}(h:fo S got)(x:Int):fo S (Ac S got x):=
 ⟨Ad h.nd,fun y hy=>by rcases vB.1 hy with a | ⟨rfl,a⟩;exact h.mem y a;exact a⟩
theorem fo.list{S:List Int}:∀ {l got:List Int},fo S got→fo S (fZ S got l)
 | [],_,h=>h
 | x::l,got,h=>fo.list (l:=l) (h.step x)
theorem fo.lists{S:List Int}:∀ {L:List (List Int)} {got:List Int},fo S got→fo S (eK S got L)
 | [],_,h=>h
 | x::l,got,h=>fo.lists (L:=l) h.list
theorem fo.nil(S:List Int):fo S []:=⟨by simp,by simp⟩
theorem rI{S got l:List Int}{k:Nat}(h:k<l.length):fZ S got (l.take (k+1))=Ac S (fZ S got (l.take k)) (nth l k):=by
 rw[uO h];simp[fZ]
theorem Ak{W:List (List Int)}{i:Nat}(h:i<W.length):W.take (i+1)=W.take i++[nth W i]:=by
 rw[List.take_succ_eq_append_getElem h]
 congr 2
 unfold nth
 rw[aLl,aLc h];rfl
theorem Al{S got:List Int}{L:List (List Int)}{k:Nat}(h:k<L.length):eK S got (L.take (k+1))=fZ S (eK S got (L.take k)) (nth L k):=by
 rw[Ak h];simp[eK]
theorem mW{L:List (List Int)}{S:List Int}(hS:S.length≤1000)(hL:L.length≤12)(hl:∀i,(nth L i).length≤1000000){g0:List Int}(ok:fo S g0){i:Nat}(hi:i<L.length)(Wt:List Ev.T)(w:D)(r8 set:Int):
 ∀z1:D,exS bD K.gO ⟨[.t (.sl Wt),.t (tL S),w,I r8,I set,.t (.sl (L.map tL)),I (cG S g0),.ref 0 0 g0.length,I i,I 0,z1],[.arr 1 false 0 (ints g0)]⟩=some (.exit 4,⟨[.t (.sl Wt),.t (tL S),.und,I r8,I set,.t (.sl (L.map tL)),I (cG S (fZ S g0 (nth L i))),.ref 0 0 (fZ S g0 (nth L i)).length,I i,I (nth L i).length,.und],[.arr 1 false 0 (ints (fZ S g0 (nth L i)))]⟩):=by
 have li:=hl i
 have wg:=bB (l:=L) tL hi
 have hi2:i<12:=by omega
 generalize nth L i=l at*
 have lp:∀z2 z10:D,exS bD K.gO ⟨[.t (.sl Wt),.t (tL S),z2,I r8,I set,.t (.sl (L.map tL)),I (cG S g0),.ref 0 0 g0.length,I i,I 0,z10],[.arr 1 false 0 (ints g0)]⟩=
  some (.exit 4,⟨[.t (.sl Wt),.t (tL S),.und,I r8,I set,.t (.sl (L.map tL)),I (cG S (fZ S g0 l)),.ref 0 0 (fZ S g0 l).length,I i,I l.length,.und],[.arr 1 false 0 (ints (fZ S g0 l))]⟩):=by
  intro z2 z10
  refine ea (fun k=>⟨[.t (.sl Wt),.t (tL S),.und,I r8,I set,.t (.sl (L.map tL)),I (cG S (fZ S g0 (l.take k))),.ref 0 0 (fZ S g0 (l.take k)).length,I i,I k,.und],[.arr 1 false 0 (ints (fZ S g0 (l.take k)))]⟩) l.length rfl ?_ ?_ (by simp)
  · intro k hk
    have xg:=bB (l:=l) (Ev.T.int .i64) hk
    have ok2:fo S (fZ S g0 (l.take k)):=ok.list
    have gl:=tQ ok2.nd ok2.mem
    have rb:=kZ S (fZ S g0 (l.take k))
    have hh:=y5 (fZ S g0 (l.take k)) (nth l k) (by omega)
    rw[rI hk]
    generalize fZ S g0 (l.take k)=got at*
    generalize nth l k=x at*
    clear ok ok2
    simp only[ints,tL]at*
    unfold Ac
    by_cases c0:0≤x
    · obtain⟨n,rfl⟩:=Int.eq_ofNat_of_zero_le c0
      by_cases c1:(n:Int)<S.length
      · by_cases c2:(n:Int)∈got
        · rw[if_neg (fun h=>h.2.2 c2)]
          rw[decide_eq_true c2]at hh
          simp(disch:=omega)only[go_sem,K.cT,↓reduceIte,wg,xg,c1,hh,Bool.not_true,aLt,reduceAdd,reduceSub]
        · rw[if_pos ⟨c0,c1,c2⟩,rH]
          rw[decide_eq_false c2]at hh
          have sg:=bB (l:=S) (Ev.T.int .i64) (j:=n) (by omega)
          have cb:=tP (nth S (n:Int).toNat)
          unfold C7 at*
          rw[Int.toNat_natCast]at*
          have wk:IntKind.i64.wrap (cG S got+max 0 (min (nth S n) 12))=cG S got+max 0 (min (nth S n) 12):=bY (by omega) (by omega)
          generalize nth S n=s at*
          generalize cG S got=r at*
          simp(disch:=omega)only[go_sem,K.cT,↓reduceIte,wg,xg,c1,hh,sg,wk,Bool.not_false,aLt,reduceAdd,reduceSub]
      · rw[if_neg (fun h=>c1 h.2.1)]
        simp(disch:=omega)only[go_sem,K.cT,↓reduceIte,wg,xg,c1,aLt,decide_false,reduceAdd,reduceSub]
    · rw[if_neg (fun h=>c0 h.1)]
      simp(disch:=omega)only[go_sem,K.cT,↓reduceIte,wg,xg,c0,aLt,decide_false,reduceAdd,reduceSub]
  · rw[List.take_length]
    simp(disch:=omega)only[go_sem,K.cT,↓reduceIte,wg,reduceAdd,reduceSub]
 intro z1
 exact lp w z1
theorem fH(n s:Nat):(ax n s).length≤n:=by
 have:=List.length_filter_le (qw s) (List.range n)
 rw[List.length_range]at this;exact this
theorem nq{W:List (List Int)}{b:Nat}(hl:∀i,(nth W i).length≤b)(X:List Nat)(i:Nat):(nth (aK W X) i).length≤b:=by
 by_cases c:i<(aK W X).length
 · have:=gM (l:=aK W X) c
   obtain⟨k, -,e⟩:=List.mem_map.1 this
   rw[← e];exact hl k
 · rw[qi c];exact Nat.zero_le _
theorem Db{W:List (List Int)}{S:List Int}(hW:W.length≤12)(hS:S.length≤1000)(hl:∀i,(nth W i).length≤1000000):bD 0 N.cR [.t (.sl (W.map tL)),.t (tL S)] []=some (I (fy W S),[]):=by
 refine bI K.iP rfl ?_
 have p1:2 ^ W.length≤2 ^ 12:=Nat.pow_le_pow_right (by omega) hW
 have p0:1≤2 ^ W.length:=Nat.one_le_two_pow
 have wu:=jd W.length (by omega)
 have sl:=tN W.length hW
 have lkb:∀j,fw W S j≤W.length:=fun j=>qj (by omega) (fun s=>by
  have:=kZ S (eK S [] (aK W (ax W.length s)))
  have:=fH W.length s
  simp only[qv,aK,List.length_map]at*
  omega) j
 have lp:∀z2 z5 z6 z7 z8 z9 z10:D,exS bD K.kQ ⟨[.t (.sl (W.map tL)),.t (tL S),z2,I 0,I 1,z5,z6,z7,z8,z9,z10],[]⟩=
  some (.exit 0,⟨[.t (.sl (W.map tL)),.t (tL S),.und,I (fw W S (2 ^ W.length-1)),I ((2 ^ W.length:Nat):Int),.und,.und,.und,.und,.und,.und],[]⟩):=by
  intro z2 z5 z6 z7 z8 z9 z10
  refine ea (fun j=>⟨[.t (.sl (W.map tL)),.t (tL S),.und,I (fw W S j),I ((j:Int)+1),.und,.und,.und,.und,.und,.und],[]⟩) (2 ^ W.length-1) rfl ?_ ?_ (by simp)
  · intro j hj
    have so:=vH hW (s:=j+1) (by omega)
    have lb:=lkb j
    have ln:=kU W S j
    have ml:=fH W.length (j+1)
    have hl2:=nq hl (ax W.length (j+1))
    have de:qv S (aK W (ax W.length (j+1)))=((aK W (ax W.length (j+1))).length:Int)-cG S (eK S [] (aK W (ax W.length (j+1)))):=rfl
    rw[fw,de]
    have pl:(aK W (ax W.length (j+1))).length=(ax W.length (j+1)).length:=List.length_map _
    rw[show((j:Int)+1)=((j+1:Nat):Int)by omega]
    clear lkb de
    generalize ax W.length (j+1)=X at*
    generalize aK W X=L at*
    rw[← pl]at ml
    clear pl
    have e2:(((j+1:Nat):Int)+1)=((j+1+1:Nat):Int):=by omega
    rw[e2]
    have lj:((j+1:Nat):Int)<((2 ^ W.length:Nat):Int):=by omega
    have wj:IntKind.i64.wrap (((j+1:Nat):Int)+1)=((j+1+1:Nat):Int):=bY (by omega) (by omega)
    generalize fw W S j=r8 at*
    generalize ((j+1:Nat):Int)=st at*
    generalize ((j+1+1:Nat):Int)=st2 at*
    have l2:∀z2 z9 z10:D,exS bD K.kP ⟨[.t (.sl (W.map tL)),.t (tL S),z2,I r8,I st,.t (.sl (L.map tL)),I 0,.ref 0 0 0,I 0,z9,z10],[.arr 1 false 0 []]⟩=
     some (.exit 2,⟨[.t (.sl (W.map tL)),.t (tL S),.und,I r8,I st,.t (.sl (L.map tL)),I (cG S (eK S [] L)),.ref 0 0 (eK S [] L).length,I L.length,.und,.und],[.arr 1 false 0 (ints (eK S [] L))]⟩):=by
     intro z2 z9 z10
     refine ea (fun i=>⟨[.t (.sl (W.map tL)),.t (tL S),.und,I r8,I st,.t (.sl (L.map tL)),I (cG S (eK S [] (L.take i))),.ref 0 0 (eK S [] (L.take i)).length,I i,.und,.und],[.arr 1 false 0 (ints (eK S [] (L.take i)))]⟩) L.length rfl ?_ ?_ (by simp)
     · intro i hi
       have ok:fo S (eK S [] (L.take i)):=(fo.nil S).lists
       have l3:=mW hS (by omega) hl2 ok hi (W.map tL) .und r8 st
       rw[Al hi]
       generalize fZ S (eK S [] (L.take i)) (nth L i)=g2 at*
       generalize eK S [] (L.take i)=g1 at*
       generalize nth L i=x at*
       simp only[ints]at*
       clear ok
       simp(disch:=omega)only[go_sem,K.fQ,↓reduceIte,l3,reduceAdd,reduceSub]
     · rw[List.take_length]
       generalize eK S [] L=g2 at*
       simp only[ints]at*
       simp(disch:=omega)only[go_sem,K.fQ,↓reduceIte,reduceAdd,reduceSub]
    have ok:fo S (eK S [] L):=(fo.nil S).lists
    have gl:=tQ ok.nd ok.mem
    have rb:=kZ S (eK S [] L)
    generalize eK S [] L=g2 at*
    generalize cG S g2=rm at*
    have wk:IntKind.i64.wrap ((L.length:Int)-rm)=(L.length:Int)-rm:=bY (by omega) (by omega)
    clear ok hl hl2
    generalize 2 ^ W.length=two at*
    simp only[ints]at*
    simp(disch:=omega)only[go_sem,K.fR,↓reduceIte,wu,sl,lj,so,l2,wk,wj,reduceAdd,reduceSub]
  · have e:(((2 ^ W.length-1:Nat):Int)+1)=((2 ^ W.length:Nat):Int):=by omega
    rw[e]
    clear lkb hl
    generalize fw W S (2 ^ W.length-1)=r8 at*
    generalize 2 ^ W.length=two at*
    simp(disch:=omega)only[go_sem,K.fR,↓reduceIte,wu,sl,reduceAdd,reduceSub]
 have lb:=lkb (2 ^ W.length-1)
 have ln:=kU W S (2 ^ W.length-1)
 unfold fy
 generalize fw W S (2 ^ W.length-1)=r8 at*
 have wk:IntKind.i64.wrap ((W.length:Int)-r8)=(W.length:Int)-r8:=bY (by omega) (by omega)
 clear lkb hl
 generalize 2 ^ W.length=two at*
 simp(disch:=omega)only[go_sem,K.cR,↓reduceIte,lp,wk,reduceAdd,reduceSub]
end Go.Ev
namespace Go.Ev
open Go
variable [Lib] [aO] [aN] [bS] [bT]
theorem Am{H H':ab}:∀(k:Nat) (d:D),(∀i∈bF H k d,∃sz pin pin' ep es,H[i]?=some (.arr sz pin ep es)∧H'[i]?=some (.arr sz pin' ep es))→frz H' k d=frz H k d∧bF H' k d=bF H k d:=by
 intro k
 induction k with
 | zero=>intro d _;cases d<;>exact⟨rfl,rfl⟩
 | succ k ih=>
   intro d h
   have list:∀es:List D,(∀i∈es.flatMap (bF H k),∃sz pin pin' ep es,H[i]?=some (.arr sz pin ep es)∧H'[i]?=some (.arr sz pin' ep es))→aB (frz H' k) es=aB (frz H k) es∧es.flatMap (bF H' k)=es.flatMap (bF H k):=by
    intro es
    induction es with
    | nil=>intro _;exact⟨rfl,rfl⟩
    | cons e es ihl=>
      intro he
      obtain⟨a1,a2⟩:=ih e fun i hi=>he i (by simp[hi])
      obtain⟨b1,b2⟩:=ihl fun i hi=>he i (by rw[List.flatMap_cons];exact List.mem_append_right _ hi)
      exact⟨by simp only[aB,a1,b1],by simp only[List.flatMap_cons,a2,b2]⟩
   cases d with
   | agg cs=>
     simp only[bF]at h
     obtain⟨a1,a2⟩:=list cs h
     exact⟨by simp only[frz,a1],by simp only[bF,a2]⟩
   | ref id ep n=>
     obtain⟨sz,pin,pin',ep',es,e1,e2⟩:=h id (by simp[bF])
     have:∀i∈es.flatMap (bF H k),∃sz pin pin' ep es,H[i]?=some (.arr sz pin ep es)∧H'[i]?=some (.arr sz pin' ep es):=fun i hi=>h i (by simp only[bF,e1];exact List.mem_cons_of_mem _ hi)
     obtain⟨a1,a2⟩:=list es this
     refine⟨?_,by simp only[bF,e1,e2,a2]⟩
     simp only[frz,b7,e1,e2]
     by_cases c:ep=ep'∧n=es.length
     · simp only[if_pos c,aLq,a1]
     · simp only[if_neg c,Option.bind_none]
   | sub id ep n lo hi=>
     obtain⟨sz,pin,pin',ep',es,e1,e2⟩:=h id (by simp[bF])
     have:∀i∈es.flatMap (bF H k),∃sz pin pin' ep es,H[i]?=some (.arr sz pin ep es)∧H'[i]?=some (.arr sz pin' ep es):=fun i hi=>h i (by simp only[bF,e1];exact List.mem_cons_of_mem _ hi)
     obtain⟨a1,a2⟩:=list es this
     have:∀i∈((es.drop lo).take (hi-lo)).flatMap (bF H k),∃sz pin pin' ep es,H[i]?=some (.arr sz pin ep es)∧H'[i]?=some (.arr sz pin' ep es):=fun i hi=>by
      obtain⟨e,he,hi⟩:=List.mem_flatMap.1 hi
      exact this i (List.mem_flatMap.2 ⟨e,List.mem_of_mem_drop (List.mem_of_mem_take he),hi⟩)
     obtain⟨b1,b2⟩:=list _ this
     refine⟨?_,by simp only[bF,e1,e2,a2]⟩
     simp only[frz,b7,e1,e2]
     by_cases c:ep=ep'∧n=es.length
     · simp only[if_pos c,aLq,b1]
     · simp only[if_neg c,Option.bind_none]
   | _=>exact⟨rfl,rfl⟩
section
variable {bm : bX} (hm : bm.ok) {t : Int} (i : Nat) {H : ab} {io iB iO n a fbi tl : Nat} {es : List D} {whr : List Wh} (e1 : H[iO]? = some (.box [.ref io 0 n])) (e2 : H[io]? = some (.arr 2 false 0 es)) (e3 : es.length = n)
 (e4:es[i]?=some (.agg [.ref a 0 tl,.ref fbi 0 whr.length])) (e5:H[fbi]?=some (.arr 2 false 0 (whs whr))) (e6:H[iB]?=some (.box (rA bm))) (hi:i<n) (hn:n≤1000000) (hl:whr.length≤1000000)
include hm e1 e2 e3 e4 e5 e6 hi hn hl
end
theorem An{gc:Bool}{dead:List Nat}{c:C}{vs:List D}{H:ab}(P:Nat→St→Prop)(n:Nat)(p:Nat→Bool)(Q:Bool→Ex×St→Prop)(h0:P 0 ⟨eo dead vs,H⟩)
 (hs:∀j st,j<n→p j=false→P j st→∃st',gq gc dead st.H.length (exS bD c st)=some st'∧P (j+1) st')
 (he:∀j st,j<n→p j=true→P j st→∃q,exS bD c st=some q∧q.1≠ .normal∧Q true q)
 (hN:∀st,P n st→∃q,exS bD c st=some q∧q.1≠ .normal∧Q false q):∃q,exS bD (.loop gc dead c) ⟨vs,H⟩=some q∧Q ((List.range n).any p) q:=by
 have key:∀(k j:Nat) (st:St),j+k=n→(∀i,i<j→p i=false)→P j st→∃q,iD gc dead (exS bD c) st=some q∧Q ((List.range n).any p) q:=by
  intro k
  induction k with
  | zero=>
    intro j st hj hlt hp
    obtain⟨q,h1,h2,h3⟩:=hN st (by rw[← hj];exact hp)
    have:(List.range n).any p=false:=by
     rw[List.any_eq_false]
     intro x hx
     rw[hlt x (by have:=aLu.1 hx;omega)];simp
    rw[this]
    exact⟨q,dB h1 h2,h3⟩
  | succ k ih=>
    intro j st hj hlt hp
    cases hpj:p j with
    | true=>
      obtain⟨q,h1,h2,h3⟩:=he j st (by omega) hpj hp
      have:(List.range n).any p=true:=List.any_eq_true.2 ⟨j,aLu.2 (by omega),hpj⟩
      rw[this]
      exact⟨q,dB h1 h2,h3⟩
    | false=>
      obtain⟨st',h1,h2⟩:=hs j st (by omega) hpj hp
      obtain⟨q,h3,h4⟩:=ih (j+1) st' (by omega) (fun i hi=>by
       by_cases e:i=j
       · rw[e];exact hpj
       · exact hlt i (by omega)) h2
      exact⟨q,lQ h1 h3,h4⟩
 exact key n 0 _ (by omega) (fun i hi=>by omega) h0
theorem Rp.app{H:ab}{id:Nat}{es:List D}{fa fb:Nat→Nat}{out:List World}(hr:Rp H id es fa fb out)(t:ab):Rp (H++t) id es fa fb out:=
 ⟨by rw[mL (p7 hr.arr)];exact hr.arr,hr.len,hr.el,fun j hj=>by rw[mL (p7 (hr.ha j hj))];exact hr.ha j hj,fun j hj=>by rw[mL (p7 (hr.hb j hj))];exact hr.hb j hj,hr.na,hr.nb,hr.nab,hr.nbb⟩
structure SlH(H:ab)(b:List World)(bm:bX)(iB iO io:Nat)(es:List D)(fa fb:Nat→Nat)(A:List Nat)(O:List World):Prop where
 h1:H[1]?=some (.box [.ref 3 0 b.length])
 h2:H[2]?=some (.box [.nil])
 hB:H[iB]?=some (.box (rA bm))
 hO:H[iO]?=some (.box [.ref io 0 O.length])
 rp:Rp H io es fa fb O
 ar:∀i∈A,∃sz pin ep es,H[i]?=some (.arr sz pin ep es)
 nA:∀i∈A,∀j,j<O.length→i≠fb j
 eA:bF H 7 (.ref 3 0 b.length)=A
 fr:frz H 7 (.ref 3 0 b.length)=some (.sl (b.map World.e))
theorem SlH.step{H:ab}{b:List World}{bm:bX}{iB iO io:Nat}{es:List D}{fa fb:Nat→Nat}{A:List Nat}{O:List World}(h:SlH H b bm iB iO io es fa fb A O){i:Nat}(hi:i<O.length)(x:World)(ht:(nth O i).tags=x.tags)
 (hw:x.whr.length=(nth O i).whr.length) (o:Obj):SlH (H.set (fb i) (.arr 2 false 0 (whs x.whr))++[o]) b bm iB iO io es fa fb A (O.set i x):=by
 have hb:=h.rp.hb i hi
 have nb:∀ {k:Nat} {cs:List D},H[k]?=some (.box cs)→(H.set (fb i) (.arr 2 false 0 (whs x.whr))++[o])[k]?=some (.box cs):=fun{k cs} hk=>by
  have ne:fb i≠k:=fun e=>by rw[e,hk]at hb;cases hb
  rw[mL (by rw[List.length_set];exact p7 hk),iK ne];exact hk
 have na:∀k∈A,(H.set (fb i) (.arr 2 false 0 (whs x.whr))++[o])[k]?=H[k]?:=fun k hk=>by
  obtain⟨sz,pin,ep,es',e⟩:=h.ar k hk
  rw[mL (by rw[List.length_set];exact p7 e),iK (fun e=>h.nA k hk i hi e.symm)]
 have fc:=Am (H:=H) (H':=H.set (fb i) (.arr 2 false 0 (whs x.whr))++[o]) 7 (.ref 3 0 b.length) (fun k hk=>by
  rw[h.eA]at hk
  obtain⟨sz,pin,ep,es',e⟩:=h.ar k hk
  exact⟨sz,pin,pin,ep,es',e,by rw[na k hk];exact e⟩)
 refine⟨nb h.h1,nb h.h2,nb h.hB,by rw[List.length_set];exact nb h.hO,(h.rp.merge hi x ht hw).app _,fun k hk=>?_,by rw[List.length_set];exact h.nA,by rw[fc.2];exact h.eA,by rw[fc.1];exact h.fr⟩
 obtain⟨sz,pin,ep,es',e⟩:=h.ar k hk
 exact⟨sz,pin,ep,es',by rw[na k hk];exact e⟩
end Go.Ev
namespace Go.Ev
open Go
variable [Lib] [aO] [aN] [bS] [bT] [df] [bO] [bP] [cM] [cH] [a7] [bq] [cB] [cC] [fP] [du] [kY]
theorem ma{L:List (List Int)}{S:List Int}(hS:S.length≤1000)(hL:L.length≤12)(hl:∀i,(nth L i).length≤1000000){g0:List Int}(ok:fo S g0){i:Nat}(hi:i<L.length)(z:D)(set cnt:Int):
 ∀z1:D,exS bD K.fS ⟨[.t (.sl (L.map tL)),.t (tL S),z,I set,I cnt,I (cG S g0),.ref 0 0 g0.length,I i,I 0,z1],[.arr 1 false 0 (ints g0)]⟩=some (.exit 4,⟨[.t (.sl (L.map tL)),.t (tL S),.und,I set,I cnt,I (cG S (fZ S g0 (nth L i))),.ref 0 0 (fZ S g0 (nth L i)).length,I i,I (nth L i).length,.und],[.arr 1 false 0 (ints (fZ S g0 (nth L i)))]⟩):=by
 have li:=hl i
 have wg:=bB (l:=L) tL hi
 have hi2:i<12:=by omega
 generalize nth L i=l at*
 have lp:∀z2 z9:D,exS bD K.fS ⟨[.t (.sl (L.map tL)),.t (tL S),z2,I set,I cnt,I (cG S g0),.ref 0 0 g0.length,I i,I 0,z9],[.arr 1 false 0 (ints g0)]⟩=
  some (.exit 4,⟨[.t (.sl (L.map tL)),.t (tL S),.und,I set,I cnt,I (cG S (fZ S g0 l)),.ref 0 0 (fZ S g0 l).length,I i,I l.length,.und],[.arr 1 false 0 (ints (fZ S g0 l))]⟩):=by
  intro z2 z9
  refine ea (fun k=>⟨[.t (.sl (L.map tL)),.t (tL S),.und,I set,I cnt,I (cG S (fZ S g0 (l.take k))),.ref 0 0 (fZ S g0 (l.take k)).length,I i,I k,.und],[.arr 1 false 0 (ints (fZ S g0 (l.take k)))]⟩) l.length rfl ?_ ?_ (by simp)
  · intro k hk
    have xg:=bB (l:=l) (Ev.T.int .i64) hk
    have ok2:fo S (fZ S g0 (l.take k)):=ok.list
    have gl:=tQ ok2.nd ok2.mem
    have rb:=kZ S (fZ S g0 (l.take k))
    have hh:=y5 (fZ S g0 (l.take k)) (nth l k) (by omega)
    rw[rI hk]
    generalize fZ S g0 (l.take k)=got at*
    generalize nth l k=x at*
    clear ok ok2
    simp only[ints,tL]at*
    unfold Ac
    by_cases c0:0≤x
    · obtain⟨n,rfl⟩:=Int.eq_ofNat_of_zero_le c0
      by_cases c1:(n:Int)<S.length
      · by_cases c2:(n:Int)∈got
        · rw[if_neg (fun h=>h.2.2 c2)]
          rw[decide_eq_true c2]at hh
          simp(disch:=omega)only[go_sem,K.cF,↓reduceIte,wg,xg,c1,hh,Bool.not_true,aLt,reduceAdd,reduceSub]
        · rw[if_pos ⟨c0,c1,c2⟩,rH]
          rw[decide_eq_false c2]at hh
          have sg:=bB (l:=S) (Ev.T.int .i64) (j:=n) (by omega)
          have cb:=tP (nth S (n:Int).toNat)
          unfold C7 at*
          rw[Int.toNat_natCast]at*
          have wk:IntKind.i64.wrap (cG S got+max 0 (min (nth S n) 12))=cG S got+max 0 (min (nth S n) 12):=bY (by omega) (by omega)
          generalize nth S n=s at*
          generalize cG S got=r at*
          simp(disch:=omega)only[go_sem,K.cF,↓reduceIte,wg,xg,c1,hh,sg,wk,Bool.not_false,aLt,reduceAdd,reduceSub]
      · rw[if_neg (fun h=>c1 h.2.1)]
        simp(disch:=omega)only[go_sem,K.cF,↓reduceIte,wg,xg,c1,aLt,decide_false,reduceAdd,reduceSub]
    · rw[if_neg (fun h=>c0 h.1)]
      simp(disch:=omega)only[go_sem,K.cF,↓reduceIte,wg,xg,c0,aLt,decide_false,reduceAdd,reduceSub]
  · rw[List.take_length]
    simp(disch:=omega)only[go_sem,K.cF,↓reduceIte,wg,reduceAdd,reduceSub]
 intro z1
 exact lp z z1
def eT(W:List (List Int))(S:List Int):Bool:=decide (fy W S=W.length)
def Fg(W:List (List Int))(S:List Int)(j:Nat):Bool:=decide (0<qv S (aK W (ax W.length (j+1))))
theorem rJ(W:List (List Int))(S:List Int):∀n,(List.range n).any (Fg W S)=decide (0<fw W S n)
 | 0=>by simp[fw]
 | n+1=>by
   have ih:=rJ W S n
   rw[List.range_succ,List.any_append,ih,fw]
   simp only[List.any_cons,List.any_nil,Bool.or_false,Fg]
   generalize fw W S n=a
   generalize qv S (aK W (ax W.length (n+1)))=b
   by_cases c:0<a
   · rw[decide_eq_true c,Bool.true_or,decide_eq_true (by omega)]
   · rw[decide_eq_false c,Bool.false_or]
     by_cases d:0<b
     · rw[decide_eq_true d,decide_eq_true (by omega)]
     · rw[decide_eq_false d,decide_eq_false (by omega)]
theorem Dc(W:List (List Int))(S:List Int):eT W S= !((List.range (2 ^ W.length-1)).any (Fg W S)):=by
 rw[rJ]
 have:=kU W S (2 ^ W.length-1)
 unfold eT fy
 by_cases c:fw W S (2 ^ W.length-1)=0
 · rw[c];simp
 · rw[decide_eq_false (by omega),decide_eq_true (by omega)];rfl
theorem ox{W:List (List Int)}{S:List Int}(hW:W.length≤12)(hS:S.length≤1000)(hl:∀i,(nth W i).length≤1000000):bD 0 N.a8 [.t (.sl (W.map tL)),.t (tL S)] []=some (B (eT W S),[]):=by
 refine bI K.gS rfl ?_
 have p1:2 ^ W.length≤2 ^ 12:=Nat.pow_le_pow_right (by omega) hW
 have p0:1≤2 ^ W.length:=Nat.one_le_two_pow
 have wu:=jd W.length (by omega)
 have sl:=tN W.length hW
 /- one set -/
 have set:∀(j:Nat),j<2 ^ W.length-1→∀z8 z9:D,exS bD K.jG ⟨[.t (.sl (W.map tL)),.t (tL S),.und,I (j+1:Nat),I 0,I 0,.ref 0 0 0,I 0,z8,z9],[.arr 1 false 0 []]⟩=
  some (.exit 2,⟨[.t (.sl (W.map tL)),.t (tL S),.und,I (j+1:Nat),I (ax W.length (j+1)).length,I (cG S (eK S [] (aK W (ax W.length (j+1))))),.ref 0 0 (eK S [] (aK W (ax W.length (j+1)))).length,I W.length,.und,.und],[.arr 1 false 0 (ints (eK S [] (aK W (ax W.length (j+1)))))]⟩):=by
  intro j hj z8 z9
  have hs:j+1<1000000:=by omega
  generalize j+1=s at*
  refine ea (fun i=>⟨[.t (.sl (W.map tL)),.t (tL S),.und,I s,I (ax i s).length,I (cG S (eK S [] (aK W (ax i s)))),.ref 0 0 (eK S [] (aK W (ax i s))).length,I i,.und,.und],[.arr 1 false 0 (ints (eK S [] (aK W (ax i s))))]⟩) W.length rfl ?_ ?_ (by simp)
  · intro i hi
    have wui:=jd i (by omega)
    have sh:=tK s i (by omega)
    have dl:s / 2 ^ i<2 ^ 62:=by have:=Nat.div_le_self s (2 ^ i);omega
    have an:=tM (s / 2 ^ i) dl
    rw[tO]at an
    have ml:=fH i s
    have ok:fo S (eK S [] (aK W (ax i s))):=(fo.nil S).lists
    have l3:=ma hS hW hl ok hi .und s ((ax i s).length+1)
    rw[lZ]
    by_cases c:qw s i=true
    · rw[if_pos c]at an ⊢
      have ga:eK S [] (aK W (ax i s++[i]))=fZ S (eK S [] (aK W (ax i s))) (nth W i):=by simp[eK,aK]
      rw[ga,aLv]
      clear ga ok hl hj
      generalize fZ S (eK S [] (aK W (ax i s))) (nth W i)=g2 at*
      generalize eK S [] (aK W (ax i s))=g1 at*
      generalize (ax i s).length=mq at*
      generalize s / 2 ^ i=q at*
      generalize nth W i=x at*
      simp only[ints]at*
      have wk:IntKind.i64.wrap ((mq:Int)+1)=(mq:Int)+1:=bY (by omega) (by omega)
      have e:((mq+[i].length:Nat):Int)=(mq:Int)+1:=by simp
      rw[e]
      simp(disch:=omega)only[go_sem,K.dQ,↓reduceIte,wui,sh,an,l3,wk,reduceAdd,reduceSub]
    · rw[if_neg c]at an ⊢
      rw[List.append_nil]
      clear ok hl hj l3
      generalize eK S [] (aK W (ax i s))=g1 at*
      generalize (ax i s).length=mq at*
      generalize s / 2 ^ i=q at*
      simp only[ints]at*
      simp(disch:=omega)only[go_sem,K.dQ,↓reduceIte,wui,sh,an,reduceAdd,reduceSub]
  · clear hj p1 p0 sl
    generalize eK S [] (aK W (ax W.length s))=g1 at*
    generalize (ax W.length s).length=mq at*
    simp only[ints]at*
    simp(disch:=omega)only[go_sem,K.dQ,↓reduceIte,reduceAdd,reduceSub]
 have wb:∀j,j<2 ^ W.length-1→(Fg W S j=true↔cG S (eK S [] (aK W (ax W.length (j+1))))<((ax W.length (j+1)).length:Int)):=fun j _=>by
  unfold Fg qv
  rw[show(aK W (ax W.length (j+1))).length=(ax W.length (j+1)).length from List.length_map _,decide_eq_true_iff];omega
 have lp:∀z2 z4 z5 z6 z7 z8 z9:D,∃q,exS bD K.jH ⟨[.t (.sl (W.map tL)),.t (tL S),z2,I 1,z4,z5,z6,z7,z8,z9],[]⟩=some q∧
  (if(List.range (2 ^ W.length-1)).any (Fg W S)=true then ∃(vs:List D) (H:ab),vs.length=10∧vs[2]?=some (B false)∧q=(.ret,⟨vs,H⟩)else q=(.exit 0,⟨[.t (.sl (W.map tL)),.t (tL S),.und,I ((2 ^ W.length:Nat):Int),.und,.und,.und,.und,.und,.und],[]⟩)):=by
  intro z2 z4 z5 z6 z7 z8 z9
  refine An (fun j st=>st=⟨[.t (.sl (W.map tL)),.t (tL S),.und,I ((j:Int)+1),.und,.und,.und,.und,.und,.und],[]⟩) (2 ^ W.length-1) (Fg W S) (fun b q=>if b=true then ∃(vs:List D) (H:ab),vs.length=10∧vs[2]?=some (B false)∧q=(.ret,⟨vs,H⟩)else q=(.exit 0,⟨[.t (.sl (W.map tL)),.t (tL S),.und,I ((2 ^ W.length:Nat):Int),.und,.und,.und,.und,.und,.und],[]⟩)) rfl ?_ ?_ ?_
  · rintro j st hj hp rfl
    refine⟨_,?_,rfl⟩
    have s2:=set j hj
    have nb:=(not_congr (wb j hj)).1 (by rw[hp];simp)
    have lj:((j+1:Nat):Int)<((2 ^ W.length:Nat):Int):=by omega
    have wj:IntKind.i64.wrap (((j+1:Nat):Int)+1)=((j+1+1:Nat):Int):=bY (by omega) (by omega)
    have ml:=fH W.length (j+1)
    rw[show((j:Int)+1)=((j+1:Nat):Int)by omega,show(((j+1:Nat):Int)+1)=((j+1+1:Nat):Int)by omega]
    clear set wb hl
    generalize eK S [] (aK W (ax W.length (j+1)))=g2 at*
    generalize cG S g2=rm at*
    generalize (ax W.length (j+1)).length=mm at*
    generalize ((j+1+1:Nat):Int)=st2 at*
    generalize ((j+1:Nat):Int)=st at*
    generalize 2 ^ W.length=two at*
    simp only[ints]at*
    simp(disch:=omega)only[go_sem,K.dR,↓reduceIte,wu,sl,lj,s2,nb,wj,reduceAdd,reduceSub]
  · rintro j st hj hp rfl
    have s2:=set j hj
    have nb:=(wb j hj).1 hp
    have lj:((j+1:Nat):Int)<((2 ^ W.length:Nat):Int):=by omega
    have ml:=fH W.length (j+1)
    rw[show((j:Int)+1)=((j+1:Nat):Int)by omega]
    clear set wb hl
    generalize eK S [] (aK W (ax W.length (j+1)))=g2 at*
    generalize cG S g2=rm at*
    generalize (ax W.length (j+1)).length=mm at*
    generalize ((j+1:Nat):Int)=st at*
    generalize 2 ^ W.length=two at*
    simp only[ints,if_true]at*
    refine⟨(.ret,⟨[.t (.sl (W.map tL)),.t (tL S),B false,I st,I mm,I rm,.ref 0 0 g2.length,I W.length,.und,.und],[.arr 1 false 0 (ints g2)]⟩),?_,by simp,_,_,rfl,rfl,rfl⟩
    simp only[ints]at*
    simp(disch:=omega)only[go_sem,K.dR,↓reduceIte,wu,sl,lj,s2,nb,reduceAdd,reduceSub]
  · rintro st rfl
    refine⟨_,?_,?_,rfl⟩
    · have e:(((2 ^ W.length-1:Nat):Int)+1)=((2 ^ W.length:Nat):Int):=by omega
      rw[e]
      clear set wb hl
      generalize 2 ^ W.length=two at*
      simp(disch:=omega)only[go_sem,K.dR,↓reduceIte,wu,sl,reduceAdd,reduceSub]
    · simp
 rw[Dc]
 obtain⟨q,h1,h2⟩:=lp (B false) .und .und .und .und .und .und
 clear set wb lp hl p1 p0 sl
 cases hb:(List.range (2 ^ W.length-1)).any (Fg W S)with
 | true=>
   rw[hb,if_pos rfl]at h2
   obtain⟨vs,H,v1,v2,rfl⟩:=h2
   simp(disch:=omega)only[go_sem,K.a8,↓reduceIte,h1,v2,Bool.not_true,reduceAdd,reduceSub]
 | false=>
   rw[hb,if_neg (by simp)]at h2
   subst h2
   generalize 2 ^ W.length=two at*
   simp(disch:=omega)only[go_sem,K.a8,↓reduceIte,h1,Bool.not_false,reduceAdd,reduceSub]
def mb(S:List Int)(s:Nat):List Int:=S.set s (nth S s-1)
def okS(R:List (List Int))(w S:List Int)(s:Nat):Bool:=decide ((s:Int)∈w)&&(decide (0<nth S s)&&eT R (mb S s))
def ib(R:List (List Int))(w S:List Int):Option Nat:=(List.range S.length).find? (okS R w S)
def gT(W:List (List Int))(S:List Int):Nat→List Int×List Int
 | 0=>(S,[])
 | i+1=>match ib (W.drop (i+1)) (nth W i) (gT W S i).1 with
   | some s=>(mb (gT W S i).1 s,(gT W S i).2++[(s:Int)])
   | none=>gT W S i
structure fX(S:List Int)(n:Nat):Prop where
 len:S.length=n
 bd:∀i,nth S i<9223372036854775808
theorem jX{l:List Int}{i:Nat}{a:Int}(h:i<l.length):nth (l.set i a) i=a:=kG (aLj h)
theorem tR{l:List Int}{i j:Nat}{a:Int}(h:j≠i):nth (l.set j a) i=nth l i:=by
 unfold nth
 simp only[aLl,aLi h]
theorem fX.dec{S:List Int}{n:Nat}(h:fX S n){s:Nat}(hs:s<n)(h0:0<nth S s):fX (mb S s) n where
 len:=by unfold mb;rw[List.length_set,h.len]
 bd i:=by
  have l:=h.len
  unfold mb
  by_cases c:s=i
  · subst c;rw[jX (by omega)];have:=h.bd s;omega
  · rw[tR c];exact h.bd i
theorem tS{R:List (List Int)}{w S:List Int}{s:Nat}(h:ib R w S=some s):s<S.length∧okS R w S s=true:=
 ⟨aLu.1 (List.mem_of_find?_eq_some h),List.find?_some h⟩
theorem Ao{R:List (List Int)}{w S:List Int}{s:Nat}(h:okS R w S s=true):(s:Int)∈w∧0<nth S s∧eT R (mb S s)=true:=by
 unfold okS at h
 rw[aLr,aLr,decide_eq_true_iff,decide_eq_true_iff]at h
 exact⟨h.1,h.2.1,h.2.2⟩
theorem qk(W:List (List Int)){S:List Int}{n:Nat}(h:fX S n):∀i,fX (gT W S i).1 n∧(gT W S i).2.length≤i
 | 0=>⟨h,aLs _⟩
 | i+1=>by
   obtain⟨a,b⟩:=qk W h i
   rw[gT]
   cases hf:ib (W.drop (i+1)) (nth W i) (gT W S i).1 with
   | some s=>
     obtain⟨s1,s2⟩:=tS hf
     have:=a.len
     exact⟨a.dec (by omega) (Ao s2).2.1,by simp only[aLv,List.length_singleton];omega⟩
   | none=>exact⟨a,Nat.le_trans b (by omega)⟩
theorem Dd(W:List (List Int))(k i:Nat):nth (W.drop k) i=nth W (k+i):=by
 unfold nth
 rw[aLl,aLl,List.getElem?_drop]
theorem rK{W:List (List Int)}{b:Nat}(h:∀i,(nth W i).length≤b)(k i:Nat):(nth (W.drop k) i).length≤b:=by rw[Dd];exact h _
theorem vI{l:List Int}{i:Nat}{x:Int}(h:i<l.length)(e:x=nth l i):(l.set i (nth l i-1)).set i x=l:=by
 rw[List.set_set,e]
 apply List.ext_getElem?
 intro j
 by_cases c:i=j
 · subst c
   rw[aLj h]
   unfold nth
   rw[aLl,aLc h];rfl
 · rw[aLi c]
theorem De{W:List (List Int)}{S:List Int}(hW:W.length≤12)(hS:S.length≤1000)(hl:∀i,(nth W i).length≤1000000){lf o:List Int}(sk:fX lf S.length)(ho:o.length≤100){i:Nat}(hi:i<W.length):
 ∀z2 z3:D,exS bD K.iM ⟨[.t (.sl (W.map tL)),.t (tL S),z2,z3,.ref 0 0 S.length,.ref 1 0 o.length,I i,I 0],[cQ lf,cQ o]⟩=some (match ib (W.drop (i+1)) (nth W i) lf with
  | some s=>(.exit 2,⟨[.t (.sl (W.map tL)),.t (tL S),.und,.und,.ref 0 0 S.length,.ref 1 0 (o.length+1),I i,I s],[cQ (mb lf s),cQ (o++[(s:Int)])]⟩)
  | none=>(.exit 2,⟨[.t (.sl (W.map tL)),.t (tL S),.und,.und,.ref 0 0 S.length,.ref 1 0 o.length,I i,I S.length],[cQ lf,cQ o]⟩)):=by
 intro z2 z3
 have ll:=sk.len
 have wg:=bB (l:=W) tL hi
 have li:=hl i
 have cw:aI 1 (W.map tL)=true:=dF 1 _ (fun _=>rfl) W
 have tn:((i:Int)+1).toNat=i+1:=by omega
 have rl:(W.drop (i+1)).length≤12:=by rw[List.length_drop];omega
 have hh:∀s:Nat,bD 0 N.cA [.t (tL (nth W i)),I s] []=some (B (decide ((s:Int)∈nth W i)),[]):=fun s=>y5 _ _ (by omega)
 have wi:IntKind.i64.wrap ((i:Int)+1)=(i:Int)+1:=bY (by omega) (by omega)
 have ho2:∀lg:List Int,lg.length=S.length→bD 0 N.a8 [.t (.sl ((W.map tL).drop (i+1))),.t (tL lg)] []=some (B (eT (W.drop (i+1)) lg),[]):=fun lg h=>by
  rw[← List.map_drop]
  exact ox rl (by omega) (rK hl _)
 unfold ib
 rw[ll]
 have sb:=sk.bd
 refine dD (fun j=>⟨[.t (.sl (W.map tL)),.t (tL S),.und,.und,.ref 0 0 S.length,.ref 1 0 o.length,I i,I j],[cQ lf,cQ o]⟩) S.length (okS (W.drop (i+1)) (nth W i) lf) (fun s=>(.exit 2,⟨[.t (.sl (W.map tL)),.t (tL S),.und,.und,.ref 0 0 S.length,.ref 1 0 (o.length+1),I i,I s],[cQ (mb lf s),cQ (o++[(s:Int)])]⟩)) _ rfl ?_ ?_ ?_ (by simp)
 · intro s hs hp
   have h1:=hh s
   have lg:=bB (l:=lf) (Ev.T.int .i64) (j:=s) (by omega)
   have b:=sb s
   have sbk:=vI (l:=lf) (i:=s) (x:=nth lf s-1+1) (by omega) (by omega)
   have h2:=ho2 (mb lf s) (by unfold mb;rw[List.length_set,ll])
   have n2:nth (mb lf s) s=nth lf s-1:=jX (by omega)
   clear sb hh ho2 sk
   unfold okS at hp
   unfold mb at*
   generalize hd:lf.set s (nth lf s-1)=lf2 at*
   have l2:lf2.length=S.length:=by subst hd;rw[List.length_set,ll]
   generalize eT (W.drop (i+1)) lf2=f at*
   generalize nth W i=w at*
   have wk:0<nth lf s→IntKind.i64.wrap (nth lf s-1+1)=nth lf s-1+1:=fun h=>bY (by omega) (by omega)
   simp only[ints,tL]at*
   by_cases c1:(s:Int)∈w
   · by_cases c2:0<nth lf s
     · have w0:IntKind.i64.wrap (nth lf s-1)=nth lf s-1:=bY (by omega) (by omega)
       have wk:=wk c2
       rw[decide_eq_true c1]at h1 hp
       rw[decide_eq_true c2]at hp
       simp only[Bool.true_and]at hp
       subst hp
       have c3:¬nth lf s≤0:=by omega
       simp(disch:=omega)only[go_sem,K.b6,↓reduceIte,wg,h1,lg,c3,w0,wi,cw,tn,h2,hd,n2,wk,sbk,Bool.not_true,decide_false,aLt,reduceAdd,reduceSub]
     · rw[decide_eq_true c1]at h1
       have c3:nth lf s≤0:=by omega
       simp(disch:=omega)only[go_sem,K.b6,↓reduceIte,wg,h1,lg,c3,Bool.not_true,decide_true,aLt,reduceAdd,reduceSub]
   · rw[decide_eq_false c1]at h1
     simp(disch:=omega)only[go_sem,K.b6,↓reduceIte,wg,h1,Bool.not_false,aLt,reduceAdd,reduceSub]
 · intro s hs hp
   have h1:=hh s
   have lg:=bB (l:=lf) (Ev.T.int .i64) (j:=s) (by omega)
   have b:=sb s
   have h2:=ho2 (mb lf s) (by unfold mb;rw[List.length_set,ll])
   obtain⟨c1,c2,c4⟩:=Ao hp
   clear sb hh ho2 sk hp
   unfold mb at*
   generalize hd:lf.set s (nth lf s-1)=lf2 at*
   have l2:lf2.length=S.length:=by subst hd;rw[List.length_set,ll]
   rw[c4]at h2
   rw[decide_eq_true c1]at h1
   generalize nth W i=w at*
   have w0:IntKind.i64.wrap (nth lf s-1)=nth lf s-1:=bY (by omega) (by omega)
   have c3:¬nth lf s≤0:=by omega
   simp only[ints,tL]at*
   refine⟨?_,by simp⟩
   simp(disch:=omega)only[go_sem,K.b6,↓reduceIte,wg,h1,lg,c3,w0,wi,cw,tn,h2,hd,Bool.not_true,decide_false,aLt,reduceAdd,reduceSub]
   simp only[cQ,List.map_append,List.map_cons,List.map_nil]
 · simp only[tL]
   simp(disch:=omega)only[go_sem,K.b6,↓reduceIte,reduceAdd,reduceSub]
def Df(W:List (List Int))(S:List Int):List Int:=if eT W S then(gT W S W.length).2 else []
theorem w9{W:List (List Int)}{S:List Int}(hW:W.length≤12)(hS:S.length≤1000)(hl:∀i,(nth W i).length≤1000000)(sk:fX S S.length):bD 0 N.bC [.t (.sl (W.map tL)),.t (tL S)] []=some (.tup [.t (tL (Df W S)),B (eT W S)],[]):=by
 refine bI K.fU rfl ?_
 have ho:=ox hW hS hl
 unfold Df
 cases hf:eT W S with
 | false=>
   rw[hf]at ho
   have e:tL (if false=true then(gT W S W.length).2 else [])= .sl []:=rfl
   rw[e]
   clear e
   simp(disch:=omega)only[go_sem,K.bC,↓reduceIte,ho,Bool.not_false,reduceAdd,reduceSub]
 | true=>
   rw[hf]at ho
   have ok:=fun i=>qk W sk i
   have lp:∀z2 z3 z7:D,exS bD K.iN ⟨[.t (.sl (W.map tL)),.t (tL S),z2,z3,.ref 0 0 S.length,.ref 1 0 0,I 0,z7],[cQ S,.arr 1 false 0 []]⟩=
    some (.exit 0,⟨[.t (.sl (W.map tL)),.t (tL S),.und,.und,.ref 0 0 S.length,.ref 1 0 (gT W S W.length).2.length,I W.length,.und],[cQ (gT W S W.length).1,cQ (gT W S W.length).2]⟩):=by
    intro z2 z3 z7
    refine ea (fun j=>⟨[.t (.sl (W.map tL)),.t (tL S),.und,.und,.ref 0 0 S.length,.ref 1 0 (gT W S j).2.length,I j,.und],[cQ (gT W S j).1,cQ (gT W S j).2]⟩) W.length rfl ?_ ?_ (by simp)
    · intro j hj
      obtain⟨o1,o2⟩:=ok j
      have o3:(gT W S j).2.length≤100:=by omega
      have l2:=De hW hS hl o1 o3 hj
      rw[gT]
      have ln:ib (W.drop (j+1)) (nth W j) (gT W S j).1=ib (W.drop (j+1)) (nth W j) (gT W S j).1:=rfl
      generalize (ib (W.drop (j+1)) (nth W j) (gT W S j).1)=r at*
      have e:=o1.len
      clear o1 ok
      generalize gT W S j=p at*
      obtain⟨lf,o⟩:=p
      simp only at*
      cases r with
      | none=>
        simp only[tL]at*
        simp(disch:=omega)only[go_sem,K.dy,↓reduceIte,l2,reduceAdd,reduceSub]
      | some s=>
        simp only[tL]at*
        generalize mb lf s=lf2 at*
        simp only[aLv,List.length_singleton]at*
        simp(disch:=omega)only[go_sem,K.dy,↓reduceIte,l2,reduceAdd,reduceSub]
    · simp only[tL]
      simp(disch:=omega)only[go_sem,K.dy,↓reduceIte,reduceAdd,reduceSub]
   obtain⟨o1,o2⟩:=ok W.length
   have e:=o1.len
   clear o1 ok sk
   generalize gT W S W.length=p at*
   obtain⟨lf,o⟩:=p
   simp only[tL,if_true,List.map_nil]at*
   simp(disch:=omega)only[go_sem,K.bC,↓reduceIte,ho,lp,Bool.not_true,aLt,reduceAdd,reduceSub]
end Go.Ev
namespace Go.Ev
open Go
variable [Lib] [aO] [aN]
structure OfI(m:bX)(p:Nat)(l:List Int):Prop where
 ln:l.length=m.aZ.length
 bd:bnd l
 z:nth l p=0
theorem OfI.set{m:bX}{p:Nat}{l:List Int}(h:OfI m p l){q:Nat}{x:Int}(hq:q<l.length)(h0:0<x)(hx:x<nth l q):OfI m p (l.set q x):=by
 have b1:=h.bd _ (gM hq)
 refine⟨by rw[List.length_set];exact h.ln,HQ h.bd (by omega) (by omega),?_⟩
 rw[CM _ _ hq]
 split
 · rename_i e;subst e;have:=h.z;omega
 · exact h.z
@[go_sem] theorem Qy : dG [] [] [] = some true := (rfl)
@[go_sem] theorem Qz (ks : List Bool) (k : IntKind) (a b : Int) (xs ys : List T) : dG (true :: ks) (.int k a :: xs) (.int k b :: ys) = Cm (decide (a = b)) (dG ks xs ys) := by
 simp only[dG,if_true,NI]
 cases dG ks xs ys<;>rfl
@[go_sem] theorem MY (ks : List Bool) (a b : Bool) (xs ys : List T) : dG (false :: ks) (.bool a :: xs) (.bool b :: ys) = Cm (decide (a = b)) (dG ks xs ys) := by
 simp only[dG,show(a==b)=decide (a=b)from rfl]
 cases dG ks xs ys<;>rfl
@[go_sem] theorem Ti (H : ab) (ks : List Bool) (neg : Bool) (xs ys : List T) : gK H (.sc ks) neg (some (.t (.agg xs))) (some (.t (.agg ys))) = Cn H neg (dG ks xs ys) := by
 simp only[gK,aLq,Dw,eqD]
 cases dG ks xs ys with
 | none=>rfl
 | some r=>cases neg<;>rfl
end Go.Ev
namespace Go.Ev.K
open Go.Ev
end Go.Ev.K
namespace Go.Ev
class iS [Lib]:Prop where
namespace K
variable [Lib] [iS]
end K
end Go.Ev
namespace Go.Ev.K
open Go.Ev
end Go.Ev.K
namespace Go.Ev
class iT [Lib]:Prop where
namespace K
variable [Lib] [iT]
end K
end Go.Ev
namespace Go.Ev
open Go
variable [Lib] [aO] [aN] [bS] [bT] [bO] [bP] [cM] [cH] [iS] [iT]
end Go.Ev
namespace Go.Ev
open Go
variable [Lib] [aO] [aN] [bS] [bT] [df] [bO] [bP] [cM] [cH] [a7] [bq] [cB] [cC]
end Go.Ev
namespace Go.Ev
open Go
variable [Lib] [aO] [aN] [bS] [bT]
end Go.Ev
namespace Go.Ev
open Go
variable [Lib] [aO] [aN] [bS] [bT] [df] [bO] [bP] [cM] [cH] [a7] [bq] [cB] [cC] [iS] [iT]
end Go.Ev
namespace Go.Ev
open Go
variable [Lib]
structure Edge where
 r:Nat
 a:Nat
 b:Nat
 t:Int
structure Lab where
 t:Int
 r:Int
 deriving DecidableEq
instance : Dat Edge := ⟨⟨0, 0, 0, 0⟩⟩
instance : Dat Lab := ⟨⟨0, 0⟩⟩
def lh(x y:Lab):Bool:=decide (x.t<y.t)||(decide (x.t=y.t)&&decide (x.r<y.r))
theorem oy{x y:Lab}:lh x y=true↔x.t<y.t∨x.t=y.t∧x.r<y.r:=by
 simp[lh]
theorem Aq{x y:Lab}:lh x y=false↔¬(x.t<y.t∨x.t=y.t∧x.r<y.r):=by
 rw[← oy,Bool.not_eq_true]
def Dg(L:List Lab)(e:Edge):Lab:=⟨(nth L e.b).t+e.t,(nth L e.b).r+1⟩
def Tj(F:Int)(u:Edge→Bool)(L:List Lab)(e:Edge):Bool:=u e&&decide ((nth L e.b).t<F)&&lh (Dg L e) (nth L e.a)
def YP(F:Int)(u:Edge→Bool)(L:List Lab)(e:Edge):List Lab:=if Tj F u L e then L.set e.a (Dg L e)else L
def Tk(F:Int)(u:Edge→Bool)(E:List Edge)(L:List Lab)(c:Bool):Nat→List Lab×Bool
 | 0=>(L,c)
 | j+1=>(YP F u (Tk F u E L c j).1 (nth E j),(Tk F u E L c j).2||Tj F u (Tk F u E L c j).1 (nth E j))
structure YQ(F:Int)(n:Nat)(L:List Lab):Prop where
 l:L.length=n
 t0:∀p,p<n→0≤(nth L p).t
 t1:∀p,p<n→(nth L p).t≤F
 r0:∀p,p<n→0≤(nth L p).r
 r1:∀p,p<n→(nth L p).r≤(nth L p).t
def Edge.ok(n:Nat)(e:Edge):Prop:=e.a<n∧e.b<n∧1≤e.t∧e.t≤1000000
def wL(F:Int)(x:Lab):Nat:=(x.t*(F+1)+x.r).toNat
def YR(F:Int)(L:List Lab):Nat:=(L.map (wL F)).sum
structure YS(F:Int)(n:Nat)(E:List Edge)(u:Edge→Bool)(Z:Nat→Bool)(L:List Lab):Prop extends YQ F n L where
 z:∀p,p<n→Z p=true→nth L p=⟨0,0⟩
 w:∀p,p<n→(nth L p).t<F→Z p=true∨∃e∈E,u e=true∧e.a=p∧(nth L e.b).t<F∧lh (nth L p) (Dg L e)=false
structure Tl(F:Int)(n:Nat)(E:List Edge)(u:Edge→Bool)(Z:Nat→Bool)(L:List Lab):Prop extends YS F n E u Z L where
 fx:∀e∈E,Tj F u L e=false
def QA(F:Int)(u:Edge→Bool)(E:List Edge)(L:List Lab):List Lab:=uP (fun L=>Tk F u E L false E.length) (YR F L+1) L
theorem Tl.eqn{F:Int}{n:Nat}{E:List Edge}{u:Edge→Bool}{Z:Nat→Bool}{L:List Lab}(h:Tl F n E u Z L)(hE:∀e∈E,e.ok n){p:Nat}(hp:p<n)(hf:(nth L p).t<F)(hz:Z p=false):∃e∈E,u e=true∧e.a=p∧(nth L e.b).t<F∧nth L p=Dg L e:=by
 rcases h.w p hp hf with h1 | ⟨e,he,e1,e2,e3,e4⟩
 · rw[hz]at h1;cases h1
 · refine⟨e,he,e1,e2,e3,?_⟩
   have fx:=h.fx e he
   unfold Tj at fx
   rw[e1,decide_eq_true e3,e2]at fx
   simp only[Bool.true_and]at fx
   rw[Aq]at fx e4
   have:∀x y:Lab,x.t=y.t→x.r=y.r→x=y:=fun x y a b=>by
    cases x;cases y;simp only at a b;rw[a,b]
   exact this _ _ (by omega) (by omega)
theorem Ar{p q:Nat→Bool}(h:∀x,p x=true→q x=true){l:List Nat}{x:Nat}(hx:x∈l)(h1:q x=true)(h2:p x=false):l.countP p<l.countP q:=by
 have le:∀l:List Nat,l.countP p≤l.countP q:=fun l=>List.countP_mono_left (fun x _ hp=>h x hp)
 induction l with
 | nil=>cases hx
 | cons a l ih=>
   rw[List.countP_cons,List.countP_cons]
   have:=le l
   rcases List.mem_cons.1 hx with rfl | hx
   · rw[h1,h2];simp;omega
   · have:=ih hx
     cases hp:p a with
     | true=>rw[h a hp];simp;omega
     | false=>simp;omega
theorem Tl.time{F:Int}{n:Nat}{E:List Edge}{u:Edge→Bool}{Z:Nat→Bool}{L:List Lab}(h:Tl F n E u Z L)(hE:∀e∈E,e.ok n){p:Nat}(hp:p<n)(hf:(nth L p).t<F):(nth L p).t≤(n:Int)*1000000:=by
 have key:∀(k:Nat) (p:Nat),p<n→(nth L p).t.toNat=k→(nth L p).t<F→(nth L p).t≤((List.range n).countP (fun x=>lh (nth L x) (nth L p)):Int)*1000000:=by
  intro k
  induction k using Nat.strongRecOn with
  | ind k ih=>
    intro p hp hk hf
    by_cases hz:Z p=true
    · rw[h.z p hp hz]
      have:0≤((List.range n).countP (fun x=>lh (nth L x) ⟨0,0⟩):Int)*1000000:=Int.mul_nonneg (Int.natCast_nonneg _) (by omega)
      exact this
    · obtain⟨e,he,e1,e2,e3,e4⟩:=h.eqn hE hp hf (by simpa using hz)
      obtain⟨o1,o2,o3,o4⟩:=hE e he
      have ct:(nth L p).t=(nth L e.b).t+e.t:=by rw[e4];rfl
      have cr:(nth L p).r=(nth L e.b).r+1:=by rw[e4];rfl
      have b0:=h.t0 _ o2
      have:=ih (nth L e.b).t.toNat (by omega) e.b o2 rfl e3
      have lt:(List.range n).countP (fun x=>lh (nth L x) (nth L e.b))<(List.range n).countP (fun x=>lh (nth L x) (nth L p)):=by
       refine Ar (fun x hx=>?_) (aLu.2 o2) ?_ ?_
       · rw[oy]at hx ⊢;omega
       · rw[oy];omega
       · rw[Aq];omega
      generalize (List.range n).countP (fun x=>lh (nth L x) (nth L e.b))=c1 at*
      generalize (List.range n).countP (fun x=>lh (nth L x) (nth L p))=c2 at*
      omega
 have a:=key _ p hp rfl hf
 have b:(List.range n).countP (fun x=>lh (nth L x) (nth L p))≤n:=by
  have:=List.countP_le_length (p:=fun x=>lh (nth L x) (nth L p)) (l:=List.range n)
  simpa using this
 generalize (List.range n).countP (fun x=>lh (nth L x) (nth L p))=c at*
 omega
def Wi(u:Edge→Bool)(L:List Lab)(at':Nat)(e:Edge):Bool:=decide (e.a=at')&&u e&&decide (nth L e.b=⟨(nth L at').t-e.t,(nth L at').r-1⟩)
def Wj(u:Edge→Bool)(E:List Edge)(L:List Lab)(at':Nat):Option Edge:=E.find? (Wi u L at')
def QB(Z:Nat→Bool)(u:Edge→Bool)(E:List Edge)(L:List Lab):Nat→Nat→List Edge
 | 0,_=>[]
 | k+1,p=>if Z p then []else match Wj u E L p with
   | some e=>e::QB Z u E L k e.b
   | none=>[]
def Fh:Nat→List Edge→Prop
 | _,[]=>True
 | p,e::l=>e.a=p∧Fh e.b l
def XU:Nat→List Edge→Nat
 | p,[]=>p
 | _,e::l=>XU e.b l
structure XV(F:Int)(n:Nat)(E:List Edge)(u:Edge→Bool)(Z:Nat→Bool)(L:List Lab)(p:Nat)(l:List Edge):Prop where
 mem:∀e∈l,e∈E∧u e=true∧e.b<n
 chain:Fh p l
 fin:Z (XU p l)=true
 sum:(l.map Edge.t).sum=(nth L p).t
 low:∀e∈l,(nth L e.b).r<(nth L p).r
 dis:(l.map Edge.b).Nodup
end Go.Ev
namespace Go.Ev.K
open Go.Ev
end Go.Ev.K
namespace Go.Ev
class jY [Lib]:Prop where
namespace K
variable [Lib] [jY]
end K
end Go.Ev
namespace Go.Ev.K
open Go.Ev
def br:C:= (.seq (.ite [m v4,m v3,u (.ln l0),u (.bin .lss l2 l0)] [] 0 .skip (.exit 2)) (.seq (.blk 3 (.ite [m v3,m v4,a 1 l1 l0,g l0,m v3,m v4,u (.bin .sub l0 (.i 1)),a 1 l2 l0,g l0,u (.bin .neq l5 l0)] [] 0 (q [m v0,m v2,m v3,m v4,a 1 l1 l0,g l0,a 1 l5 l4,u (.st l0 l1 1 [])] [] (.reg [m v2,u (.bin .add l0 (.i 1)),x 2 l0] [])) .skip)) (.reg [m v4,u (.bin .add l0 (.i 1)),x 4 l0] [])))
def dv:C:= .loop true [1] K.br
def aH:C:= (.seq (.ite [m v2,m v0,u (.ln l0),u (.bin .lss l2 l0)] [] 0 .skip (.exit 0)) (.seq (.blk 1 (.ite [m v0,m v2,a 1 l1 l0,g l0,m v0,m v2,u (.bin .sub l0 (.i 1)),a 1 l2 l0,g l0,u (.bin .eql l5 l0)] [] 0 (q [m v0,m v2,u (.sc l1 (some l0) none 1),x 3 l0] [] (.seq (q [x 4 (.i 1)] [] (.blk 2 K.dv)) (q [m v0,m v2,u (.sc l1 (some l0) none 1),u (.clr l0 (.int .i64 (0)) 1)] [] (q [m v0,m v2,u (.pop l1 l0),x 1 l0] [] .ret)))) .skip)) (.reg [m v2,u (.bin .add l0 (.i 1)),x 2 l0] [])))
def ch:C:= .loop true [1,3,4] K.aH
def aj:Fn:= { dj:=1,vars:=[0,2,3,4,5],body:=(q [w 1 (.mv (.c (.nil)))] [] (.seq (.ite [m v0,u (.ln l0),u (.bin .lss l0 (.i 2))] [] 0 (q [m v0,x 1 l0] [] .ret) .skip) (.seq (q [x 2 (.i 1)] [] (.blk 0 K.ch)) (q [m v0,x 1 l0] [] .ret)))),res:=[(1,none)]}
end Go.Ev.K
namespace Go.Ev
class jo [Lib]:Prop where
 aX:Lib.fs N.aj=some K.aj
namespace K
variable [Lib] [jo]
theorem aX:Lib.fs N.aj=some K.aj:=jo.aX
end K
end Go.Ev
namespace Go.Ev.K
open Go.Ev
end Go.Ev.K
namespace Go.Ev
class jZ [Lib]:Prop where
namespace K
variable [Lib] [jZ]
end K
end Go.Ev
namespace Go.Ev
open Go
variable [Lib] [aO] [aN] [bS] [bT] [df] [bO] [bP] [cM] [cH] [a7] [bq] [cB] [cC] [iS] [iT] [jY] [jo] [jZ]
structure Esc where
 safe:List Int
 bad:List Int
 shut:List Int
 Fm:Int
instance : Dat Esc := ⟨⟨[], [], [], 0⟩⟩
abbrev Esc.e(e:Esc):T:= .agg [tL e.safe,tL e.bad,tL e.shut,tI e.Fm]
structure Esc.ok(m:bX)(e:Esc):Prop where
 s:Co e.safe m.aZ.length=true
 b:Co e.bad m.aZ.length=true
 h:Co e.shut m.roads.length=true
 l0:0≤e.Fm
 l1:e.Fm≤2147483648
theorem Esc.ok.sl{m:bX}{e:Esc}(hm:m.ok)(h:e.ok m):e.safe.length≤64:=by
 have:=p6 h.s;have:=hm.np;omega
theorem Esc.ok.bl{m:bX}{e:Esc}(hm:m.ok)(h:e.ok m):e.bad.length≤64:=by
 have:=p6 h.b;have:=hm.np;omega
theorem Esc.ok.hl{m:bX}{e:Esc}(hm:m.ok)(h:e.ok m):e.shut.length≤128:=by
 have:=p6 h.h;have:=hm.nr;omega
abbrev Dh(m:bX)(k:Nat)(back:Bool):Int:=HP m k back 2 3 4
abbrev Edge.e(e:Edge):T:= .agg [tI e.r,tI e.a,tI e.b,tI e.t]
abbrev Lab.e(x:Lab):T:= .agg [tI x.t,tI x.r]
def uB(sf bd:List Bool)(e:Edge):Bool:= !(nth sf e.a)&& !(nth bd e.b)
def Wk(F:Int)(sf:List Bool)(n j:Nat):List Lab:=(List.range n).map fun p=>if decide (p<j)&& !(nth sf p)then⟨F,0⟩else⟨0,0⟩
abbrev XW:Int:=1152921504606846976
def QC(E:List Edge)(sf bd:List Bool)(n:Nat):List Lab:=QA XW (uB sf bd) E (Wk XW sf n n)
abbrev Wl(sf:List Bool)(p:Nat):Bool:=nth sf p
def YT(E:List Edge)(sf bd:List Bool)(n p:Nat):List Edge:=QB (Wl sf) (uB sf bd) E (QC E sf bd n) (nth (QC E sf bd n) p).r.toNat p
theorem As{l:Nat}{L:C}{S:St}{p:Ex×St}{K:St→Option (Ex×St)}{E:Ex×St→Option (D×ab)}{R:Option (D×ab)}(h:exS bD L S=some p)(h2:(andThen (lP l (some p)) K).bind E=R):(andThen (lP l (exS bD L S)) K).bind E=R:=by
 rw[h];exact h2
def Wm(l:List Bool)(xs:List Int):Nat→List Bool
 | 0=>l
 | j+1=>(Wm l xs j).set (nth xs j).toNat true
def Wn(m:bX):List Bool:=m.aZ.map Place.surf
def sfL(m:bX)(e:Esc):List Bool:=Wm (Wn m) e.safe e.safe.length
def bdL(m:bX)(e:Esc):List Bool:=Wm (List.replicate m.aZ.length false) e.bad e.bad.length
def Wo(m:bX)(e:Esc)(k:Nat):List Edge:=
 if(k:Int)∈e.shut then []else
  (if 0≤Dh m k false then [⟨k,(nth m.roads k).frm.toNat,(nth m.roads k).to.toNat,Dh m k false⟩]else [])++
  (if 0≤Dh m k true then [⟨k,(nth m.roads k).to.toNat,(nth m.roads k).frm.toNat,Dh m k true⟩]else [])
def Fi(m:bX)(e:Esc):Nat→List Edge
 | 0=>[]
 | j+1=>Fi m e j++Wo m e j
def QD(m:bX)(e:Esc):List Edge:=Fi m e m.roads.length
end Go.Ev
namespace Go.Ev
open Go
section
variable [Lib]
def JO(H:ab)(zero:T)(sz:Nat)(x:D):Option (D×ab):=qy H x zero sz
@[go_sem] theorem XX (call : ak) (get : X → Option D) (H : ab) (x : X) (zero : T) (sz : Nat) : evO call get H (.clr x zero sz) = (get x).bind (JO H zero sz) := (rfl)
@[go_sem] theorem Wp (H : ab) (zero : T) (sz ep n lo hi : Nat) (es : List D) (h1 : n = es.length) (h2 : lo ≤ hi) (h3 : hi ≤ n) : JO (.arr sz false ep es :: H) zero sz (.sub 0 ep n lo hi) =
 some (.tup [],.arr sz false ep (es.take lo++List.replicate (hi-lo) (.t zero)++es.drop hi)::H):=by
 have a:b7 (.arr sz false ep es::H) 0 ep n=some (sz,false,es):=by
  show(if ep=ep∧n=es.length then some (sz,false,es)else none)=_
  rw[if_pos ⟨rfl,h1⟩]
 simp only[JO,qy,a,aLq,JX]
 by_cases h:hi-lo=0
 · rw[if_pos h,h]
   have:hi=lo:=by omega
   subst this
   simp
 · rw[if_neg h,if_pos (by simp)]
   have:lo+(hi-lo)=hi:=by omega
   rw[this]
   rfl
def JP(H:ab)(x hi:Option D):Option (D×ab):=x.bind fun a=>(hi.bind intOf).bind fun h=>MZ H a h
@[go_sem] theorem XY (call : ak) (get : X → Option D) (H : ab) (x hi : X) : evO call get H (.pop x hi) = JP H (get x) (get hi) := (rfl)
@[go_sem] theorem Wq (H : ab) (k : IntKind) (sz ep n : Nat) (i : Int) (es : List D) (h1 : n = es.length) (h2 : 0 ≤ i) (h3 : i ≤ n) : JP (.arr sz false ep es :: H) (some (.ref 0 ep n)) (some (.t (.int k i))) =
 some (.ref 0 (ep+1) i.toNat,.arr sz false (ep+1) (es.take i.toNat)::H):=by
 have a:b7 (.arr sz false ep es::H) 0 ep n=some (sz,false,es):=by
  show(if ep=ep∧n=es.length then some (sz,false,es)else none)=_
  rw[if_pos ⟨rfl,h1⟩]
 have b:intOf (.t (.int k i))=some i:=rfl
 have c:idx i=some i.toNat:=by unfold idx;rw[if_pos h2]
 simp only[JP,aLq,b,MZ,a,c]
 rw[if_pos ⟨by omega,trivial⟩]
 rfl
end
variable [Lib] [aO] [aN] [bS] [bT] [df] [bO] [bP] [cM] [cH] [a7] [bq] [cB] [cC] [iS] [iT] [jY] [jo] [jZ]
def Ws(l:List Int)(e:Edge):Bool:= !decide ((e.r:Int)∈l)
def YU(l:List Int)(E:List Edge):List Edge:=E.filter (Ws l)
end Go.Ev
namespace Go.Ev
open Go
variable [Lib]
def kN(p:Nat→Bool)(l:List Int)(j:Nat):List Int:=((List.range j).filter p).map (nth l)
theorem vJ(p:Nat→Bool)(l:List Int)(j:Nat):(kN p l j).length≤j:=by
 unfold kN
 rw[List.length_map]
 have:=List.length_filter_le p (List.range j)
 rwa [List.length_range]at this
theorem oz(p:Nat→Bool)(l:List Int)(j:Nat):kN p l (j+1)=kN p l j++(if p j then [nth l j]else []):=by
 unfold kN
 rw[List.range_succ,List.filter_append,List.map_append]
 cases h:p j<;>simp[h]
def kA(p:Nat→Bool)(l:List Int)(j:Nat):List Int:=kN p l j++l.drop (kN p l j).length
theorem Au(p:Nat→Bool)(l:List Int){j:Nat}(hj:j≤l.length):(kA p l j).length=l.length:=by
 unfold kA
 have:=vJ p l j
 rw[aLv,List.length_drop];omega
theorem Di{A B:List Int}{i:Nat}(h:A.length≤i):nth (A++B) i=nth B (i-A.length):=by
 unfold nth
 simp only[aLl,aLh h]
theorem Av{A:List Int}{k i:Nat}:nth (A.drop k) i=nth A (k+i):=by
 unfold nth
 simp only[aLl,List.getElem?_drop]
theorem Fj(p:Nat→Bool)(l:List Int)(j:Nat){i:Nat}(hi:(kN p l j).length≤i):nth (kA p l j) i=nth l i:=by
 unfold kA
 rw[Di hi,Av]
 congr 1
 omega
theorem Dj{l:List Int}{k:Nat}(h:k<l.length):l.drop k=nth l k::l.drop (k+1):=by
 rw[List.drop_eq_getElem_cons h]
 congr 1
 have:=fD h
 rw[aLc h]at this
 exact Option.some.inj this
theorem QE(p:Nat→Bool)(l:List Int){j:Nat}(hj:j<l.length)(h:p j=true):(kA p l j).set (kN p l j).length (nth l j)=kA p l (j+1):=by
 unfold kA
 have dl:=vJ p l j
 rw[oz p l j,if_pos h,List.set_append_right _ _ (aLs _),Nat.sub_self,aLv,List.length_singleton,List.append_assoc]
 congr 1
 rw[Dj (show(kN p l j).length<l.length by omega)]
 rfl
theorem Aw(p:Nat→Bool)(l:List Int){j:Nat}(h:p j=false):kN p l (j+1)=kN p l j∧kA p l (j+1)=kA p l j:=by
 have:kN p l (j+1)=kN p l j:=by rw[oz p l j,h];simp
 unfold kA
 rw[this]
 exact⟨rfl,rfl⟩
theorem Ax(p:Nat→Bool)(l:List Int):∀ {j:Nat},j≤l.length→(∀i,i<j→p i=true)→kN p l j=l.take j
 | 0,_,_=>rfl
 | j+1,hj,h=>by
   rw[oz,if_pos (h j (by omega)),Ax p l (by omega) (fun i hi=>h i (by omega)),List.take_succ,fD (by omega)]
   rfl
theorem Dk(p:Nat→Bool)(l:List Int){i:Nat}(hi:i<l.length)(h:∀k,k<i→p k=true)(hp:p i=false):kA p l (i+1)=l∧(kN p l (i+1)).length=i:=by
 have e:kN p l (i+1)=l.take i:=by
  rw[(Aw p l hp).1,Ax p l (by omega) h]
 constructor
 · unfold kA
   rw[e,List.length_take,Nat.min_eq_left (by omega),List.take_append_drop]
 · rw[e,List.length_take];omega
theorem QF(p:Nat→Bool)(l:List Int)(j:Nat)(x:Int):x∈kN p l j↔∃i,i<j∧p i=true∧nth l i=x:=by
 unfold kN
 rw[List.mem_map]
 constructor
 · rintro ⟨i,hi,rfl⟩
   rw[List.mem_filter,aLu]at hi
   exact⟨i,hi.1,hi.2,rfl⟩
 · rintro ⟨i,h1,h2,rfl⟩
   exact⟨i,List.mem_filter.2 ⟨aLu.2 h1,h2⟩,rfl⟩
def bJ(l:List Int)(i:Nat):Bool:=decide (i=0)||decide (nth l i≠nth l (i-1))
def mQ(l:List Int):List Int:=kN (bJ l) l l.length
theorem Fk{l:List Int}(h:l.Pairwise (· ≤ ·)){i j:Nat}(hij:i<j)(hj:j<l.length):nth l i≤nth l j:=by
 have:=List.pairwise_iff_getElem.1 h i j (by omega) hj hij
 have e1:nth l i=l[i]:=kG (aLc (by omega))
 have e2:nth l j=l[j]:=kG (aLc hj)
 omega
theorem Dl{l:List Int}(h:l.Pairwise (· ≤ ·))(x:Int):x∈mQ l↔x∈l:=by
 unfold mQ
 rw[QF]
 constructor
 · rintro ⟨i,h1,_,rfl⟩;exact gM h1
 · intro hx
   obtain⟨j,hj⟩:=aLf.1 hx
   have jl:=(aLe.1 hj).1
   have key:∀j,j<l.length→∃i,i<l.length∧bJ l i=true∧nth l i=nth l j:=by
    intro j
    induction j with
    | zero=>intro h0;exact⟨0,h0,by simp[bJ],rfl⟩
    | succ j ih=>
      intro hj
      by_cases c:nth l (j+1)=nth l j
      · obtain⟨i,h1,h2,h3⟩:=ih (by omega)
        exact⟨i,h1,h2,by rw[h3,c]⟩
      · exact⟨j+1,hj,by unfold bJ;simp[c],rfl⟩
   obtain⟨i,h1,h2,h3⟩:=key j jl
   exact⟨i,h1,h2,by rw[h3,kG hj]⟩
theorem JQ{l:List Int}(h:l.Pairwise (· ≤ ·)):(mQ l).Pairwise (· < ·):=by
 unfold mQ kN
 rw[List.pairwise_map]
 have:((List.range l.length).filter (bJ l)).Pairwise (fun i j=>i<j∧j<l.length∧bJ l j=true):=by
  rw[List.pairwise_filter]
  have r:(List.range l.length).Pairwise (fun i j=>i<j∧j<l.length):=by
   have:=List.pairwise_lt_range (n:=l.length)
   refine List.Pairwise.imp_of_mem ?_ this
   intro i j hi hj hij
   exact⟨hij,aLu.1 hj⟩
  exact r.imp (fun{a b} hab h1 h2=>⟨hab.1,hab.2,h2⟩)
 refine this.imp ?_
 rintro i j ⟨h1,h2,h3⟩
 unfold bJ at h3
 simp only[Bool.or_eq_true,decide_eq_true_eq]at h3
 have h4:nth l j≠nth l (j-1):=h3.elim (fun h=>by omega) id
 have h5:nth l (j-1)≤nth l j:=Fk h (by omega) h2
 have h6:nth l i≤nth l (j-1):=by
  by_cases c:i=j-1
  · rw[c];exact Int.le_refl _
  · exact Fk h (by omega) (by omega)
 omega
end Go.Ev
namespace Go.Ev
open Go
variable [Lib] [aO] [aN] [bS] [bT] [df] [bO] [bP] [cM] [cH] [a7] [bq] [cB] [cC] [iS] [iT] [jY] [jo] [jZ]
abbrev YV(P:List Edge):List Int:=P.map fun e=>(e.r:Int)
def w1E(m:bX)(e:Esc)(p:Nat):List Edge:=YT (QD m e) (sfL m e) (bdL m e) m.aZ.length p
def st2(m:bX)(e:Esc)(p:Nat):List Edge:=YU (YV (w1E m e p)) (QD m e)
theorem Ay(l:List Int):(∀i,i<l.length→bJ l i=true)∨∃k,1≤k∧k<l.length∧bJ l k=false∧∀i,i<k→bJ l i=true:=by
 by_cases h:∀i,i<l.length→bJ l i=true
 · exact .inl h
 · right
   have:∃k,k<l.length∧bJ l k=false:=by
    apply Classical.byContradiction
    intro hn
    exact h fun i hi=>by
     cases hc:bJ l i with
     | true=>rfl
     | false=>exact absurd ⟨i,hi,hc⟩ hn
   obtain⟨k,hk,hf⟩:=this
   induction k using Nat.strongRecOn with
   | ind k ih=>
     by_cases hx:∀i,i<k→bJ l i=true
     · refine⟨k,?_,hk,hf,hx⟩
       by_cases c:k=0
       · subst c;simp[bJ]at hf
       · omega
     · have:∃i,i<k∧bJ l i=false:=by
        apply Classical.byContradiction
        intro hn
        exact hx fun i hi=>by
         cases hc:bJ l i with
         | true=>rfl
         | false=>exact absurd ⟨i,hi,hc⟩ hn
       obtain⟨i,h1,h2⟩:=this
       exact ih i h1 (by omega) h2
theorem QG(l:List Int)(hl:l.length≤200000)(k:Nat)(h1:1≤k)(hk:k<l.length)(hf:bJ l k=false)(hx:∀i,i<k→bJ l i=true)(z1:D):
 exS bD K.dv ⟨[.ref 0 0 l.length,z1,I k,.sub 0 0 l.length k l.length,I 1],[cQ l]⟩=
  some (.exit 2,⟨[.ref 0 0 l.length,.und,I (mQ l).length,.sub 0 0 l.length k l.length,I (l.length-k)],[cQ (kA (bJ l) l l.length)]⟩):=by
 obtain⟨e1,e2⟩:=Dk (bJ l) l hk hx hf
 refine ea (fun i=>⟨[.ref 0 0 l.length,.und,I (kN (bJ l) l (k+1+i)).length,.sub 0 0 l.length k l.length,I (1+i:Nat)],[cQ (kA (bJ l) l (k+1+i))]⟩) (l.length-(k+1)) ?_ ?_ ?_ (by simp)
 · simp only[Nat.add_zero,e1,e2]
   rfl
 · intro i hi
   have hj:k+1+i<l.length:=by omega
   have kl:(kN (bJ l) l (k+1+i)).length≤k+i:=by
    have key:∀i,(kN (bJ l) l (k+1+i)).length≤k+i:=by
     intro i
     induction i with
     | zero=>rw[Nat.add_zero,e2];omega
     | succ i ih=>
       rw[show k+1+(i+1)=(k+1+i)+1 from rfl,oz]
       split<;>simp<;>omega
    exact key i
   have n1:=Fj (bJ l) l (k+1+i) (i:=k+1+i) (by omega)
   have n2:=Fj (bJ l) l (k+1+i) (i:=k+i) (by omega)
   have ln:=Au (bJ l) l (j:=k+1+i) (by omega)
   have st:=QE (bJ l) l hj
   have sm:=Aw (bJ l) l (j:=k+1+i)
   have sp:=oz (bJ l) l (k+1+i)
   have fb:bJ l (k+1+i)=decide (nth l (k+1+i)≠nth l (k+i)):=by
    unfold bJ
    rw[decide_eq_false (by omega),Bool.false_or,show k+1+i-1=k+i by omega]
   rw[show k+1+(i+1)=k+1+i+1 from rfl]
   generalize kA (bJ l) l (k+1+i)=A at*
   generalize kN (bJ l) l (k+1+i)=F at*
   have x1:nth A (k+(1+i))=nth l (k+1+i):=by rw[← n1];congr 1;omega
   have x2:nth A (k+i)=nth l (k+i):=n2
   have t1:(1+(i:Int)).toNat=1+i:=by omega
   have t2:(1+(i:Int)-1).toNat=i:=by omega
   by_cases c:nth l (k+1+i)=nth l (k+i)
   · rw[(sm (by rw[fb];simp[c])).1,(sm (by rw[fb];simp[c])).2]
     simp(disch:=omega)only[go_sem,K.br,↓reduceIte,t1,t2,x1,x2,c,not_true_eq_false,Int.add_assoc,reduceAdd,reduceSub]
   · rw[← st (by rw[fb];simp[c]),sp,if_pos (by rw[fb];simp[c])]
     simp(disch:=omega)only[go_sem,K.br,↓reduceIte,t1,t2,x1,x2,c,Hd,aLv,List.length_singleton,not_false_eq_true,Int.add_assoc,reduceAdd,reduceSub]
 · have:k+1+(l.length-(k+1))=l.length:=by omega
   rw[this]
   have ln:=Au (bJ l) l (j:=l.length) (aLs _)
   unfold mQ
   generalize kA (bJ l) l l.length=A at*
   generalize kN (bJ l) l l.length=F at*
   have t3:(1:Int)+((l.length-(k+1):Nat):Int)=(l.length:Int)-k:=by omega
   simp(disch:=omega)only[go_sem,K.br,↓reduceIte,t3,reduceAdd,reduceSub]
theorem Az(l:List Int)(hl:l.length≤200000)(h2:2≤l.length)(h:∀i,i<l.length→bJ l i=true)(z1 z3 z4:D):
 exS bD K.ch ⟨[.ref 0 0 l.length,z1,I 1,z3,z4],[cQ l]⟩=some (.exit 0,⟨[.ref 0 0 l.length,.und,I l.length,.und,.und],[cQ l]⟩):=by
 refine ea (fun i=>⟨[.ref 0 0 l.length,.und,I (1+i:Nat),.und,.und],[cQ l]⟩) (l.length-1) rfl ?_ ?_ (by simp)
 · intro i hi
   have fb:=h (1+i) (by omega)
   have c:¬nth l (1+i)=nth l i:=by
    unfold bJ at fb
    rw[decide_eq_false (by omega),Bool.false_or,show 1+i-1=i by omega]at fb
    simpa using fb
   have t1:(1+(i:Int)).toNat=1+i:=by omega
   have t2:(1+(i:Int)-1).toNat=i:=by omega
   simp(disch:=omega)only[go_sem,K.aH,↓reduceIte,t1,t2,c,Int.add_assoc,reduceAdd,reduceSub]
 · have t3:(1:Int)+((l.length-1:Nat):Int)=(l.length:Int):=by omega
   simp(disch:=omega)only[go_sem,K.aH,↓reduceIte,t3,reduceAdd,reduceSub]
theorem xa(l:List Int)(hl:l.length≤200000)(k:Nat)(h1:1≤k)(hk:k<l.length)(hf:bJ l k=false)(hx:∀i,i<k→bJ l i=true)(z1 z3 z4:D):
 exS bD K.ch ⟨[.ref 0 0 l.length,z1,I 1,z3,z4],[cQ l]⟩=some (.ret,⟨[.ref 0 0 l.length,.ref 0 1 (mQ l).length,I (mQ l).length,.sub 0 0 l.length k l.length,I (l.length-k)],[.arr 1 false 1 (((mQ l).map (T.int .i64)).map .t)]⟩):=by
 have key:=CL (vs:=[.ref 0 0 l.length,z1,I 1,z3,z4]) (H:=[cQ l]) (c:=K.aH) (gc:=true) (dead:=[1,3,4])
  (fun i st=>st=⟨[.ref 0 0 l.length,.und,I (1+i:Nat),.und,.und],[cQ l]⟩) (k-1) (fun q=>q=(.ret,⟨[.ref 0 0 l.length,.ref 0 1 (mQ l).length,I (mQ l).length,.sub 0 0 l.length k l.length,I (l.length-k)],[.arr 1 false 1 (((mQ l).map (T.int .i64)).map .t)]⟩)) rfl ?_ ?_
 · obtain⟨q,h1,rfl⟩:=key
   exact h1
 · rintro i st hi rfl
   have fb:=hx (1+i) (by omega)
   have c:¬nth l (1+i)=nth l i:=by
    unfold bJ at fb
    rw[decide_eq_false (by omega),Bool.false_or,show 1+i-1=i by omega]at fb
    simpa using fb
   have t1:(1+(i:Int)).toNat=1+i:=by omega
   have t2:(1+(i:Int)-1).toNat=i:=by omega
   refine⟨_,?_,rfl⟩
   simp(disch:=omega)only[go_sem,K.aH,↓reduceIte,t1,t2,c,Int.add_assoc,reduceAdd,reduceSub]
 · rintro st rfl
   rw[show 1+(k-1)=k by omega]
   have c:nth l k=nth l (k-1):=by
    unfold bJ at hf
    rw[decide_eq_false (by omega),Bool.false_or]at hf
    simpa using hf
   have t2:((k:Int)-1).toNat=k-1:=by omega
   have l2:=QG l hl k h1 hk hf hx
   have cl:(mQ l).length≤l.length:=vJ _ _ _
   have ln:=Au (bJ l) l (j:=l.length) (aLs _)
   have tk:(kA (bJ l) l l.length).take (mQ l).length=mQ l:=by
    unfold kA mQ
    rw[List.take_left]
   generalize kA (bJ l) l l.length=A at*
   generalize mQ l=U at*
   have al3:l.length=(List.map D.t (List.map (T.int .i64) A)).length:=by simp[ln]
   have al5:l.length=(List.take U.length (List.map D.t (List.map (T.int .i64) A))++List.replicate (l.length-U.length) (D.t (T.int .i64 0))++List.drop l.length (List.map D.t (List.map (T.int .i64) A))).length:=by
    simp only[aLv,List.length_take,List.length_replicate,List.length_drop,List.length_map]
    omega
   have ta:List.take U.length (List.map D.t (List.map (T.int .i64) A))=List.map D.t (List.map (T.int .i64) U):=by rw[← List.map_take,←List.map_take,tk]
   have ta2:∀x y:List D,List.take U.length (List.take U.length (List.map D.t (List.map (T.int .i64) A))++x++y)=List.map D.t (List.map (T.int .i64) U):=by
    intro x y
    rw[ta,List.append_assoc,List.take_left' (by simp)]
   refine⟨_,?_,?_,rfl⟩
   · simp(disch:=omega)only[go_sem,K.aH,↓reduceIte,t2,c,l2,ta2,reduceAdd,reduceSub]
   · simp
abbrev mY(l:List Int)(ep:Nat):Obj:= .arr 1 false ep ((l.map (T.int .i64)).map .t)
theorem JR{l:List Int}(h:∀i,i<l.length→bJ l i=true):mQ l=l:=by
 unfold mQ
 rw[Ax _ _ (aLs _) h,List.take_length]
theorem xb(l:List Int)(hl:l.length≤200000):∃ep,bD 1 N.aj [.ref 0 0 l.length] [cQ l]=some (.ref 0 ep (mQ l).length,[mY (mQ l) ep]):=by
 rcases Ay l with h | ⟨k,h1,hk,hf,hx⟩
 · refine⟨0,bI K.aX rfl ?_⟩
   rw[JR h]
   by_cases h2:l.length<2
   · simp(disch:=omega)only[go_sem,K.aj,↓reduceIte,h2,reduceAdd,reduceSub]
   · have l1:=Az l hl (by omega) h
     simp(disch:=omega)only[go_sem,K.aj,↓reduceIte,h2,l1,reduceAdd,reduceSub]
 · refine⟨1,bI K.aX rfl ?_⟩
   have l1:=xa l hl k h1 hk hf hx
   have h2:¬l.length<2:=by omega
   generalize mQ l=U at*
   simp(disch:=omega)only[go_sem,K.aj,↓reduceIte,h2,reduceAdd,reduceSub]
   refine As (l1 _ _ _) ?_
   simp(disch:=omega)only[go_sem,K.aj,↓reduceIte,reduceAdd,reduceSub]
end Go.Ev
namespace Go.Ev
open Go
variable [Lib] [aO] [aN] [bS] [bT] [df] [bO] [bP] [cM] [cH] [a7] [bq] [cB] [cC] [iS] [iT] [jY] [jo] [jZ] [fP] [du] [kY]
theorem xc(l:List Int)(h0:l≠[])(hl:l.length≤1000000):bD 0 N.aC [.fn N.af [.bp 0 0]] [.box [.t (tL l)]]=some (.ref 1 0 l.length,[.box [.t (tL l)],cQ (cZ l)]):=by
 refine rz K.bU (by decide) ?_
 show lC [5,N.af] _ _=_
 simp only[lC,if_true,List.getElem?_cons_zero,ir,aLq,pe]
 rw[if_pos (by unfold lim;omega)]
 cases l with
 | nil=>exact absurd rfl h0
 | cons x l=>simp only[List.isEmpty_cons,aLt,if_false,List.length_singleton,List.map_map,cQ];rfl
theorem tT:bD 0 N.aC [.fn N.af [.bp 0 0]] [.box [.t (tL [])]]=some (.nil,[.box [.t (tL [])]]):=by
 refine rz K.bU (by decide) ?_
 show lC [5,N.af] _ _=_
 simp only[lC,if_true,List.getElem?_cons_zero,ir,aLq,pe]
 rw[if_pos (by simp[lim])]
 rfl
theorem tU:bD 1 N.aj [.nil] []=some (.nil,[]):=by
 refine bI K.aX rfl ?_
 simp(disch:=omega)only[go_sem,K.aj,↓reduceIte,reduceAdd,reduceSub]
theorem gv(H H1:ab):ft H H1 [] (.nil,[])=some (.nil,H1):=by simp[ft,pU,fI,T.scalar,ren,depth,aB,aA,dH]
theorem je(H:ab):jT H (.nil,[])=some (.nil,H):=by simp[jT,rr,ren,depth,aB]
def okU(R:List (List Int))(lf u:List Int)(k:Nat):Bool:=decide (0≤nth u k∧nth u k<lf.length)&&(decide (0<nth lf (nth u k).toNat)&&eT R (mb lf (nth u k).toNat))
theorem xd{R:List (List Int)}{w lf u:List Int}(hu:u.Pairwise (· < ·))(hm:∀x,x∈u↔x∈w):
 ib R w lf=((List.range u.length).find? (okU R lf u)).map fun k=>(nth u k).toNat:=by
 have ok:∀k,okU R lf u k=true→k<u.length→0≤nth u k∧(nth u k).toNat<lf.length∧okS R w lf (nth u k).toNat=true:=fun k h hk=>by
  unfold okU at h
  rw[aLr,decide_eq_true_iff]at h
  obtain⟨⟨a,b⟩,c⟩:=h
  refine⟨a,by omega,?_⟩
  unfold okS
  rw[aLr,decide_eq_true_iff,Int.toNat_of_nonneg a]
  exact⟨(hm _).1 (gM hk),c⟩
 have ko:∀s,s<lf.length→okS R w lf s=true→∃k,k<u.length∧nth u k=s∧okU R lf u k=true:=fun s hs h=>by
  unfold okS at h
  rw[aLr,decide_eq_true_iff]at h
  obtain⟨a,b⟩:=h
  obtain⟨k,hk⟩:=aLf.1 ((hm _).2 a)
  have kl:=(aLe.1 hk).1
  have e:nth u k=(s:Int):=kG hk
  refine⟨k,kl,e,?_⟩
  unfold okU
  rw[aLr,decide_eq_true_iff,e,Int.toNat_natCast]
  exact⟨⟨by omega,by omega⟩,b⟩
 unfold ib
 cases hf:(List.range u.length).find? (okU R lf u)with
 | none=>
   rw[Option.map_none,List.find?_eq_none]
   intro s hs h
   obtain⟨k,kl, -,hk⟩:=ko s (aLu.1 hs) h
   exact List.find?_eq_none.1 hf k (aLu.2 kl) hk
 | some k=>
   have kl:=aLu.1 (List.mem_of_find?_eq_some hf)
   obtain⟨a,b,c⟩:=ok k (List.find?_some hf) kl
   have fst:∀i,i<k→okU R lf u i=false:=fun i hi=>by
    have:=(List.find?_range_eq_some.1 hf).2.2 i hi
    simpa using this
   rw[aLw,List.find?_range_eq_some]
   refine⟨c,aLu.2 b,fun s hs=>?_⟩
   cases e:okS R w lf s with
   | false=>rfl
   | true=>
     exfalso
     obtain⟨i,il,e1,e2⟩:=ko s (by omega) e
     have ik:i<k:=by
      rcases Nat.lt_trichotomy i k with q | q | q
      · exact q
      · subst q;omega
      · have:=List.pairwise_iff_getElem.1 hu k i kl il q
        have n1:nth u k=u[k]:=kG (aLc kl)
        have n2:nth u i=u[i]:=kG (aLc il)
        omega
     rw[fst i ik]at e2
     exact absurd e2 (by simp)
theorem Dm{W:List (List Int)}{n:Nat}(hW:W.length≤12)(hS:n≤1000)(hl:∀i,(nth W i).length≤1000000){lf o:List Int}(sk:fX lf n)(ho:o.length≤100){i:Nat}(hi:i<W.length)(w:List Int)(u:List Int)(ep:Nat)(hu:u.length≤1000000):
 ∀z1 z2 z3 z7 z8:D,exS bD K.eJ ⟨[.t (.sl (W.map tL)),z1,z2,z3,.ref 0 0 n,.ref 1 0 o.length,I i,z7,z8,.t (.sl (W.map tL)),I W.length,I i,.ref 3 ep u.length,I u.length,I 0],[cQ lf,cQ o,.box [.t (tL w)],mY u ep]⟩=some (match (List.range u.length).find? (okU (W.drop (i+1)) lf u)with
  | some k=>(.exit 2,⟨[.t (.sl (W.map tL)),.und,.und,.und,.ref 0 0 n,.ref 1 0 (o.length+1),I i,.und,I (nth u k),.t (.sl (W.map tL)),I W.length,I i,.ref 3 ep u.length,I u.length,I k],[cQ (mb lf (nth u k).toNat),cQ (o++[nth u k]),.box [.t (tL w)],mY u ep]⟩)
  | none=>(.exit 2,⟨[.t (.sl (W.map tL)),.und,.und,.und,.ref 0 0 n,.ref 1 0 o.length,I i,.und,.und,.t (.sl (W.map tL)),I W.length,I i,.ref 3 ep u.length,I u.length,I u.length],[cQ lf,cQ o,.box [.t (tL w)],mY u ep]⟩)):=by
 intro z1 z2 z3 z7 z8
 have ll:=sk.len
 have cw:aI 1 (W.map tL)=true:=dF 1 _ (fun _=>rfl) W
 have tn:((i:Int)+1).toNat=i+1:=by omega
 have rl:(W.drop (i+1)).length=W.length-(i+1):=List.length_drop
 have wi:IntKind.i64.wrap ((i:Int)+1)=(i:Int)+1:=bY (by omega) (by omega)
 have wj:IntKind.i64.wrap ((W.length:Int)-i)=(W.length:Int)-i:=bY (by omega) (by omega)
 have wm:IntKind.i64.wrap ((W.length:Int)-i-1)=(W.length:Int)-i-1:=bY (by omega) (by omega)
 have wn:IntKind.i64.wrap ((n:Int)-1)=(n:Int)-1:=bY (by omega) (by omega)
 have mo:∀lg:List Int,lg.length=n→bD 0 N.aQ [.t (.sl ((W.map tL).drop (i+1))),.t (tL lg)] []=some (I (fy (W.drop (i+1)) lg),[]):=fun lg h=>by
  rw[← List.map_drop]
  exact(kV (by omega) (by omega) (rK hl _)).1
 have fm:∀lg:List Int,eT (W.drop (i+1)) lg=decide (fy (W.drop (i+1)) lg=(W.length:Int)-i-1):=fun lg=>by
  unfold eT
  rw[show((W.drop (i+1)).length:Int)=(W.length:Int)-i-1 by omega]
 have sb:=sk.bd
 have inn:=fun x:Int=>Po x 0 ((n:Int)-1)
 refine dD (fun k=>⟨[.t (.sl (W.map tL)),.und,.und,.und,.ref 0 0 n,.ref 1 0 o.length,I i,.und,.und,.t (.sl (W.map tL)),I W.length,I i,.ref 3 ep u.length,I u.length,I k],[cQ lf,cQ o,.box [.t (tL w)],mY u ep]⟩) u.length (okU (W.drop (i+1)) lf u) (fun k=>(.exit 2,⟨[.t (.sl (W.map tL)),.und,.und,.und,.ref 0 0 n,.ref 1 0 (o.length+1),I i,.und,I (nth u k),.t (.sl (W.map tL)),I W.length,I i,.ref 3 ep u.length,I u.length,I k],[cQ (mb lf (nth u k).toNat),cQ (o++[nth u k]),.box [.t (tL w)],mY u ep]⟩)) _ rfl ?_ ?_ ?_ (by simp)
 · intro k hk hp
   have ug:=bB (l:=u) (Ev.T.int .i64) hk
   have i1:=inn (nth u k)
   unfold okU at hp
   rw[fm]at hp
   by_cases c0:0≤nth u k∧nth u k≤(n:Int)-1
   · rw[decide_eq_true c0]at i1
     rw[decide_eq_true (p:=0≤nth u k∧nth u k<lf.length) ⟨c0.1,by omega⟩,Bool.true_and]at hp
     obtain⟨s,hs⟩:=Int.eq_ofNat_of_zero_le c0.1
     rw[hs]at hp i1 c0
     rw[Int.toNat_natCast]at hp
     have b:=sb s
     have sbk:=vI (l:=lf) (i:=s) (x:=nth lf s-1+1) (by omega) (by omega)
     have h2:=mo (mb lf s) (by unfold mb;rw[List.length_set,ll])
     have n2:nth (mb lf s) s=nth lf s-1:=jX (by omega)
     clear sb mo sk fm inn
     unfold mb at*
     generalize hd:lf.set s (nth lf s-1)=lf2 at*
     have l2:lf2.length=n:=by subst hd;rw[List.length_set,ll]
     generalize fy (W.drop (i+1)) lf2=f at*
     simp only[tL,mY,cQ]at*
     by_cases c2:nth lf s<1
     · simp(disch:=omega)only[go_sem,K.bA,↓reduceIte,ug,hs,wn,i1,c2,Bool.not_true,decide_true,aLt,reduceAdd,reduceSub]
     · rw[decide_eq_true (by omega),Bool.true_and,decide_eq_false_iff_not]at hp
       have w0:IntKind.i64.wrap (nth lf s-1)=nth lf s-1:=bY (by omega) (by omega)
       have wk:IntKind.i64.wrap (nth lf s-1+1)=nth lf s-1+1:=bY (by omega) (by omega)
       simp(disch:=omega)only[go_sem,K.bA,↓reduceIte,ug,hs,wn,i1,c2,w0,wi,cw,tn,h2,hd,n2,wk,sbk,wj,wm,hp,Bool.not_true,decide_false,aLt,reduceAdd,reduceSub]
   · rw[decide_eq_false c0]at i1
     clear sb mo sk fm inn hp
     simp only[tL,mY,cQ]at*
     simp(disch:=omega)only[go_sem,K.bA,↓reduceIte,ug,wn,i1,Bool.not_false,aLt,reduceAdd,reduceSub]
 · intro k hk hp
   refine⟨?_,by simp⟩
   have ug:=bB (l:=u) (Ev.T.int .i64) hk
   have i1:=inn (nth u k)
   unfold okU at hp
   rw[fm,aLr,aLr,decide_eq_true_iff,decide_eq_true_iff,decide_eq_true_iff]at hp
   obtain⟨⟨c0,c1⟩,c2,c4⟩:=hp
   obtain⟨s,hs⟩:=Int.eq_ofNat_of_zero_le c0
   rw[decide_eq_true ⟨c0,by omega⟩]at i1
   rw[hs]at i1 c0 c1 c2 c4 ⊢
   rw[Int.toNat_natCast]at c2 c4 ⊢
   have b:=sb s
   have h2:=mo (mb lf s) (by unfold mb;rw[List.length_set,ll])
   rw[c4]at h2
   clear sb mo sk fm inn c4
   unfold mb at*
   generalize hd:lf.set s (nth lf s-1)=lf2 at*
   have l2:lf2.length=n:=by subst hd;rw[List.length_set,ll]
   have w0:IntKind.i64.wrap (nth lf s-1)=nth lf s-1:=bY (by omega) (by omega)
   have c3:¬nth lf s<1:=by omega
   simp only[tL,mY,cQ]at*
   simp(disch:=omega)only[go_sem,K.bA,↓reduceIte,ug,hs,wn,i1,c3,w0,wi,cw,tn,h2,hd,wj,wm,Bool.not_true,decide_false,aLt,reduceAdd,reduceSub]
 · simp only[tL,mY,cQ]
   simp(disch:=omega)only[go_sem,K.bA,↓reduceIte,reduceAdd,reduceSub]
theorem AA(x0 x9 x10 x4 x5 x6 x11:D)(H:ab):∀z1 z2 z3 z7 z8:D,exS bD K.eJ ⟨[x0,z1,z2,z3,x4,x5,x6,z7,z8,x9,x10,x11,.nil,I 0,I 0],H⟩=some (.exit 2,⟨[x0,.und,.und,.und,x4,x5,x6,.und,.und,x9,x10,x11,.nil,I 0,I 0],H⟩):=by
 intro z1 z2 z3 z7 z8
 refine ea (fun _=>⟨[x0,.und,.und,.und,x4,x5,x6,.und,.und,x9,x10,x11,.nil,I 0,I 0],H⟩) 0 rfl (fun j hj=>absurd hj (by omega)) ?_ (by simp)
 simp(disch:=omega)only[go_sem,K.bA,↓reduceIte,reduceAdd,reduceSub]
theorem xe{W:List (List Int)}{S:List Int}(hW:W.length≤12)(hS:S.length≤1000)(hl:∀i,(nth W i).length≤100000)(sk:fX S S.length):bD 0 N.aV [.t (.sl (W.map tL)),.t (tL S)] []=some (.tup [.t (tL (Df W S)),B (eT W S)],[]):=by
 refine bI K.fh rfl ?_
 have hl2:∀i,(nth W i).length≤1000000:=fun i=>by have:=hl i;omega
 obtain⟨mo,c,mc, -,cw⟩:=kV hW hS hl2
 have cl:=zw S (by omega)
 unfold Df
 by_cases hf:eT W S=true
 · rw[hf]
   have lt:¬fy W S<W.length:=by unfold eT at hf;rw[decide_eq_true_iff]at hf;omega
   have ok:=fun i=>qk W sk i
   generalize fy W S=mf at*
   have lp:∀z1 z2 z3 z6 z7 z8 z12 z13 z14:D,exS bD K.gZ ⟨[.t (.sl (W.map tL)),z1,z2,z3,.ref 0 0 S.length,.ref 1 0 0,z6,z7,z8,.t (.sl (W.map tL)),I W.length,I 0,z12,z13,z14],[cQ S,.arr 1 false 0 []]⟩=
    some (.exit 0,⟨[.t (.sl (W.map tL)),.und,.und,.und,.ref 0 0 S.length,.ref 1 0 (gT W S W.length).2.length,.und,.und,.und,.t (.sl (W.map tL)),I W.length,I W.length,.und,.und,.und],[cQ (gT W S W.length).1,cQ (gT W S W.length).2]⟩):=by
    intro z1 z2 z3 z6 z7 z8 z12 z13 z14
    refine ea (fun j=>⟨[.t (.sl (W.map tL)),.und,.und,.und,.ref 0 0 S.length,.ref 1 0 (gT W S j).2.length,.und,.und,.und,.t (.sl (W.map tL)),I W.length,I j,.und,.und,.und],[cQ (gT W S j).1,cQ (gT W S j).2]⟩) W.length rfl ?_ ?_ (by simp)
    · intro j hj
      obtain⟨o1,o2⟩:=ok j
      have o3:(gT W S j).2.length≤100:=by omega
      have wg:=bB (l:=W) tL hj
      have va:=zB (nth W j)
      have wl:=hl j
      by_cases wn:nth W j=[]
      · have ln:ib (W.drop (j+1)) (nth W j) (gT W S j).1=none:=by
         unfold ib
         rw[List.find?_eq_none]
         intro s _
         rw[wn]
         simp[okS]
        have so:=tT
        have co:=tU
        rw[gT,ln]
        have e:=o1.len
        clear ln ok o1
        generalize gT W S j=p at*
        obtain⟨lf,q⟩:=p
        generalize nth W j=w at*
        subst wn
        have l2:=fun x6 x11=>AA (.t (.sl (W.map tL))) (.t (.sl (W.map tL))) (I W.length) (.ref 0 0 S.length) (.ref 1 0 q.length) x6 x11 [cQ lf,cQ q,.box [.t (.sl [])]]
        simp only[tL,List.map_nil,cQ]at*
        simp(disch:=omega)only[go_sem,K.cE,↓reduceIte,wg,va,so,co,l2,gv,reduceAdd,reduceSub]
      · have so:=xc (nth W j) wn (by omega)
        have sn:=dr (nth W j)
        obtain⟨ep,co⟩:=xb (cZ (nth W j)) (by omega)
        have up:=JQ (m9 (nth W j))
        have um:∀x,x∈mQ (cZ (nth W j))↔x∈nth W j:=fun x=>by rw[Dl (m9 _),(i9 _).mem_iff]
        have ul:(mQ (cZ (nth W j))).length≤1000000:=by
         have:=vJ (bJ (cZ (nth W j))) (cZ (nth W j)) (cZ (nth W j)).length
         unfold mQ
         omega
        rw[sn]at co
        have lf:=xd (R:=W.drop (j+1)) (lf:=(gT W S j).1) up um
        rw[gT,lf]
        clear lf up um
        generalize mQ (cZ (nth W j))=u at*
        have l2:=Dm hW hS hl2 o1 o3 hj (nth W j) u ep ul
        have e:=o1.len
        have fr:∀k,(List.range u.length).find? (okU (W.drop (j+1)) (gT W S j).1 u)=some k→0≤nth u k:=fun k h=>by
         have:=List.find?_some h
         unfold okU at this
         rw[aLr,decide_eq_true_iff]at this
         exact this.1.1
        clear o1 ok
        generalize gT W S j=p at*
        obtain⟨lf,q⟩:=p
        simp only at*
        generalize (List.range u.length).find? (okU (W.drop (j+1)) lf u)=r at*
        generalize cZ (nth W j)=sw at*
        generalize nth W j=w at*
        cases r with
        | none=>
          simp only[Option.map_none,tL,mY,cQ]at*
          simp(disch:=omega)only[go_sem,K.cE,↓reduceIte,wg,va,so,co,l2,reduceAdd,reduceSub]
        | some k=>
          have k0:=fr k rfl
          obtain⟨x,hx⟩:=Int.eq_ofNat_of_zero_le k0
          simp only[aLw,tL,mY,cQ,hx,Int.toNat_natCast]at*
          generalize mb lf x=lf2 at*
          simp(disch:=omega)only[go_sem,K.cE,↓reduceIte,wg,va,so,co,l2,reduceAdd,reduceSub]
    · simp only[tL,cQ]
      simp(disch:=omega)only[go_sem,K.cE,↓reduceIte,reduceAdd,reduceSub]
   obtain⟨o1,o2⟩:=ok W.length
   have e:=o1.len
   clear o1 ok sk
   generalize gT W S W.length=p at*
   obtain⟨lf,o⟩:=p
   simp only[tL,if_true,List.map_nil,cQ]at*
   simp(disch:=omega)only[go_sem,K.aV,↓reduceIte,mo,lt,cl,lp,reduceAdd,reduceSub]
 · rw[Bool.not_eq_true]at hf
   rw[hf]
   have lt:fy W S<W.length:=by unfold eT at hf;rw[decide_eq_false_iff_not]at hf;omega
   have e:tL (if false=true then(gT W S W.length).2 else [])= .sl []:=rfl
   rw[e]
   clear e
   simp(disch:=omega)only[go_sem,K.aV,↓reduceIte,mo,lt,reduceAdd,reduceSub]
end Go.Ev
namespace Go.Ev
open Go
def rL(W:List (List Int))(S:List Int)(X:List Nat):Bool:= !eT (aK W X) S
def cL(W:List (List Int))(S:List Int):Nat→List Nat→Nat→Option (List Nat)
 | 0,b,_=>if rL W S b then some b else none
 | k+1,b,next=>match (List.range (W.length-next)).find? (fun j=>(cL W S k (b++[next+j]) (next+j+1)).isSome)with
   | some j=>cL W S k (b++[next+j]) (next+j+1)
   | none=>none
def ic(W:List (List Int))(S:List Int):Option (List Nat):=match (List.range W.length).find? (fun j=>(cL W S (j+1) [] 0).isSome)with
 | some j=>cL W S (j+1) [] 0
 | none=>none
def ly:List Nat→List Nat→Bool
 | x::a,y::b=>if x=y then ly a b else decide (x<y)
 | _,_=>false
theorem lk:∀a:List Nat,ly a a=false
 | []=>rfl
 | x::a=>by rw[ly,if_pos rfl,lk a]
theorem Dn(a x y:List Nat):ly (a++x) (a++y)=ly x y:=by
 induction a with
 | nil=>rfl
 | cons z a ih=>rw[List.cons_append,List.cons_append,ly,if_pos rfl,ih]
theorem pq:∀ {a b c:List Nat},a.length=b.length→b.length=c.length→ly a b=true→ly b c=true→ly a c=true
 | [],b,c,_,_,h,_=>by simp[ly]at h
 | x::a,[],c,h,_,_,_=>by simp at h
 | x::a,y::b,[],_,h,_,_=>by simp at h
 | x::a,y::b,z::c,h1,h2,g1,g2=>by
   simp only[ly,List.length_cons]at*
   by_cases c1:x=y
   · subst c1
     rw[if_pos rfl]at g1
     by_cases c2:x=z
     · subst c2
       rw[if_pos rfl]at g2 ⊢
       exact pq (by omega) (by omega) g1 g2
     · rw[if_neg c2]at g2 ⊢;exact g2
   · rw[if_neg c1,decide_eq_true_iff]at g1
     by_cases c2:y=z
     · subst c2
       rw[if_neg c1];simpa using g1
     · rw[if_neg c2,decide_eq_true_iff]at g2
       rw[if_neg (by omega)]
       simp;omega
theorem vK:∀ {a b:List Nat},a.length=b.length→ly a b=false→ly b a=false→a=b
 | [],[],_,_,_=>rfl
 | [],y::b,h,_,_=>by simp at h
 | x::a,[],h,_,_=>by simp at h
 | x::a,y::b,h,g1,g2=>by
   simp only[ly,List.length_cons]at*
   by_cases c1:x=y
   · subst c1
     rw[if_pos rfl]at g1 g2
     rw[vK (by omega) g1 g2]
   · rw[if_neg c1,decide_eq_false_iff_not]at g1
     rw[if_neg fun e=>c1 e.symm,decide_eq_false_iff_not]at g2
     omega
structure UpX(n:Nat)(X:List Nat):Prop where
 up:X.Pairwise (· < ·)
 lt:∀x∈X,x<n
theorem eV(W:List (List Int))(S:List Int):∀k b next,(match cL W S k b next with
 | some l=>(∃Y,l=b++Y∧Y.length=k∧UpX W.length Y∧∀y∈Y,next≤y)∧rL W S l=true∧∀Y,Y.length=k→UpX W.length Y→(∀y∈Y,next≤y)→rL W S (b++Y)=true→ly (b++Y) l=false
 | none=>∀Y,Y.length=k→UpX W.length Y→(∀y∈Y,next≤y)→rL W S (b++Y)=false)
 | 0,b,next=>by
   have nilE:∀Y:List Nat,Y.length=0→b++Y=b:=fun Y h=>by rw[List.length_eq_zero_iff.1 h,List.append_nil]
   rw[cL]
   by_cases c:rL W S b=true
   · rw[if_pos c]
     exact⟨⟨[],by simp,rfl,⟨by simp,by simp⟩,by simp⟩,c,fun Y h _ _ _=>by rw[nilE Y h];exact lk b⟩
   · rw[if_neg c]
     intro Y h _ _
     rw[nilE Y h];simpa using c
 | k+1,b,next=>by
   have ih:=fun j=>eV W S k (b++[next+j]) (next+j+1)
   have cut:∀Y:List Nat,Y.length=k+1→UpX W.length Y→(∀y∈Y,next≤y)→∃j Z,Y=(next+j)::Z∧j<W.length-next∧Z.length=k∧UpX W.length Z∧∀y∈Z,next+j+1≤y:=fun Y h1 h2 h3=>by
    cases Y with
    | nil=>simp at h1
    | cons y Z=>
      have a:=h3 y List.mem_cons_self
      have b:=h2.lt y List.mem_cons_self
      obtain⟨u1,u2⟩:=List.pairwise_cons.1 h2.up
      refine⟨y-next,Z,by rw[show next+(y-next)=y by omega],by omega,by simpa using h1,⟨u2,fun x hx=>h2.lt x (List.mem_cons_of_mem _ hx)⟩,fun z hz=>?_⟩
      have:=u1 z hz
      omega
   rw[cL]
   cases hf:(List.range (W.length-next)).find? (fun j=>(cL W S k (b++[next+j]) (next+j+1)).isSome)with
   | none=>
     simp only
     intro Y h1 h2 h3
     obtain⟨j,Z,rfl,jl,z1,z2,z3⟩:=cut Y h1 h2 h3
     have no:=List.find?_eq_none.1 hf j (aLu.2 jl)
     have i:=ih j
     cases hp:cL W S k (b++[next+j]) (next+j+1)with
     | some l=>rw[hp]at no;simp at no
     | none=>
       rw[hp]at i
       have:=i Z z1 z2 z3
       rw[List.append_assoc]at this
       exact this
   | some j=>
     simp only
     obtain⟨f1,f2,f3⟩:=List.find?_range_eq_some.1 hf
     have jl:=aLu.1 f2
     have i:=ih j
     cases hp:cL W S k (b++[next+j]) (next+j+1)with
     | none=>rw[hp]at f1;simp at f1
     | some l=>
       rw[hp]at i
       simp only at i ⊢
       obtain⟨⟨Y,e,y1,y2,y3⟩,bd,mn⟩:=i
       refine⟨⟨(next+j)::Y,by rw[e,List.append_assoc];rfl,by simp[y1],⟨List.pairwise_cons.2 ⟨fun z hz=>by have:=y3 z hz;omega,y2.up⟩,fun x hx=>?_⟩,fun x hx=>?_⟩,bd,fun X h1 h2 h3 hb=>?_⟩
       · rcases List.mem_cons.1 hx with rfl | hx
         · omega
         · exact y2.lt x hx
       · rcases List.mem_cons.1 hx with rfl | hx
         · omega
         · have:=y3 x hx;omega
       · obtain⟨i,Z,rfl,il,z1,z2,z3⟩:=cut X h1 h2 h3
         rcases Nat.lt_trichotomy i j with q | q | q
         · have no:=f3 i q
           have ii:=ih i
           cases hq:cL W S k (b++[next+i]) (next+i+1)with
           | some l2=>rw[hq]at no;simp at no
           | none=>
             rw[hq]at ii
             have:=ii Z z1 z2 z3
             rw[List.append_assoc,show [next+i]++Z=(next+i)::Z from rfl,hb]at this
             exact absurd this (by simp)
         · subst q
           have:=mn Z z1 z2 z3 (by rw[List.append_assoc];exact hb)
           rw[List.append_assoc]at this
           exact this
         · rw[e,List.append_assoc,Dn]
           show ly ((next+i)::Z) ((next+j)::Y)=false
           rw[ly,if_neg (by omega)]
           simp;omega
theorem tV{W:List (List Int)}{S:List Int}(h:ic W S=none){X:List Nat}(hx:X≠[])(u:UpX W.length X)(hl:X.length≤W.length):rL W S X=false:=by
 have l0:0<X.length:=List.length_pos_iff.2 hx
 unfold ic at h
 cases hf:(List.range W.length).find? (fun j=>(cL W S (j+1) [] 0).isSome)with
 | some j=>
   rw[hf]at h
   have:=List.find?_some hf
   simp only at h this
   rw[h]at this
   simp at this
 | none=>
   have no:=List.find?_eq_none.1 hf (X.length-1) (aLu.2 (by omega))
   have sp:=eV W S (X.length-1+1) [] 0
   cases hp:cL W S (X.length-1+1) [] 0 with
   | some l=>rw[hp]at no;simp at no
   | none=>
     rw[hp]at sp
     exact sp X (by omega) u (fun _ _=>Nat.zero_le _)
theorem oA{W:List (List Int)}{S:List Int}{l:List Nat}(h:ic W S=some l):l≠[]∧UpX W.length l∧l.length≤W.length∧rL W S l=true∧
 (∀X,X≠[]→UpX W.length X→X.length<l.length→rL W S X=false)∧∀X,UpX W.length X→X.length=l.length→rL W S X=true→ly X l=false:=by
 unfold ic at h
 cases hf:(List.range W.length).find? (fun j=>(cL W S (j+1) [] 0).isSome)with
 | none=>rw[hf]at h;simp at h
 | some j=>
   rw[hf]at h
   simp only at h
   obtain⟨f1,f2,f3⟩:=List.find?_range_eq_some.1 hf
   have jl:=aLu.1 f2
   have sp:=eV W S (j+1) [] 0
   rw[h]at sp
   obtain⟨⟨Y,e,y1,y2,y3⟩,bd,mn⟩:=sp
   rw[List.nil_append]at e
   subst e
   refine⟨fun e=>by rw[e]at y1;simp at y1,y2,by omega,bd,fun X hx hu hl=>?_,fun X hu hl hb=>mn X (by omega) hu (fun _ _=>Nat.zero_le _) hb⟩
   have l0:0<X.length:=List.length_pos_iff.2 hx
   have no:=f3 (X.length-1) (by omega)
   have sp:=eV W S (X.length-1+1) [] 0
   cases hp:cL W S (X.length-1+1) [] 0 with
   | some l=>rw[hp]at no;simp at no
   | none=>
     rw[hp]at sp
     exact sp X (by omega) hu (fun _ _=>Nat.zero_le _)
theorem vL(n s:Nat):UpX n (ax n s):=⟨List.Pairwise.filter _ List.pairwise_lt_range,fun x hx=>vF hx⟩
theorem AB{n:Nat}{X:List Nat}(h:UpX n X):∃s,s<2 ^ n∧X=ax n s:=by
 obtain⟨s,a,b⟩:=ov (fun i=>decide (i∈X)) n
 refine⟨s,a,?_⟩
 rw[← b]
 have u2:((List.range n).filter fun i=>decide (i∈X)).Pairwise (· < ·):=List.Pairwise.filter _ List.pairwise_lt_range
 have nd:∀ {l:List Nat},l.Pairwise (· < ·)→l.Nodup:=fun h=>h.imp fun{a b} k=>by omega
 have pm:=(List.perm_ext_iff_of_nodup (nd h.up) (nd u2)).2 fun x=>by
  rw[List.mem_filter,aLu,decide_eq_true_iff]
  exact⟨fun k=>⟨h.lt x k,k⟩,fun k=>k.2⟩
 exact pm.eq_of_pairwise (fun a b _ _ h1 h2=>by omega) h.up u2
def xf(W:List (List Int))(S:List Int)(best:Option (List Nat))(l:List Nat):Bool:=(match best with
 | some b=>decide (b.length<l.length)||(decide (l.length=b.length)&& !ly l b)
 | none=>false)||eT (aK W l) S
def jq(W:List (List Int))(S:List Int):Nat→Option (List Nat)
 | 0=>none
 | j+1=>if xf W S (jq W S j) (ax W.length (j+1))then jq W S j else some (ax W.length (j+1))
def ltX(a b:List Nat):Prop:=a.length<b.length∨(a.length=b.length∧ly a b=true)
theorem AD{a b c:List Nat}(h:ltX a b)(g:ltX b c):ltX a c:=by
 unfold ltX at*
 rcases h with h | ⟨h1,h2⟩<;>rcases g with g | ⟨g1,g2⟩
 · exact .inl (by omega)
 · exact .inl (by omega)
 · exact .inl (by omega)
 · exact .inr ⟨by omega,pq h1 g1 h2 g2⟩
theorem tW{W:List (List Int)}{S:List Int}{o:Option (List Nat)}{l:List Nat}(h:xf W S o l=false):rL W S l=true∧∀b,o=some b→ltX l b:=by
 unfold xf at h
 rw[Bool.or_eq_false_iff]at h
 refine⟨by unfold rL;rw[h.2];rfl,fun b e=>?_⟩
 subst e
 have h:=h.1
 simp only[Bool.or_eq_false_iff,Bool.and_eq_false_iff,decide_eq_false_iff_not,Bool.not_eq_false']at h
 unfold ltX
 by_cases c:l.length=b.length
 · exact .inr ⟨c,h.2.resolve_left (fun k=>k c)⟩
 · exact .inl (by omega)
theorem rM(W:List (List Int))(S:List Int):∀j,(∀b,jq W S j=some b→rL W S b=true∧(∃s,0<s∧b=ax W.length s))∧∀s,0<s→s≤j→rL W S (ax W.length s)=true→∃b,jq W S j=some b∧¬ltX (ax W.length s) b
 | 0=>⟨fun b h=>by simp[jq]at h,fun s h1 h2=>by omega⟩
 | j+1=>by
   obtain⟨i1,i2⟩:=rM W S j
   rw[jq]
   cases hs:xf W S (jq W S j) (ax W.length (j+1))with
   | true=>
     rw[if_pos rfl]
     refine⟨i1,fun s h1 h2 hb=>?_⟩
     by_cases e:s=j+1
     · subst e
       unfold xf at hs
       unfold rL at hb
       rw[Bool.not_eq_true']at hb
       rw[hb,Bool.or_false]at hs
       cases hn:jq W S j with
       | none=>rw[hn]at hs;simp at hs
       | some b=>
         rw[hn]at hs
         refine⟨b,rfl,fun k=>?_⟩
         simp only[Bool.or_eq_true,aLr,decide_eq_true_iff,Bool.not_eq_true']at hs
         rcases k with k | ⟨k1,k2⟩<;>rcases hs with q | ⟨q1,q2⟩
         · omega
         · omega
         · omega
         · rw[k2]at q2;exact absurd q2 (by simp)
     · exact i2 s h1 (by omega) hb
   | false=>
     obtain⟨b1,b2⟩:=tW hs
     rw[if_neg (by simp)]
     refine⟨fun b h=>by cases h;exact⟨b1,j+1,by omega,rfl⟩,fun s h1 h2 hb=>⟨_,rfl,fun k=>?_⟩⟩
     by_cases e:s=j+1
     · subst e
       rcases k with k | ⟨-,k⟩
       · omega
       · rw[lk]at k;exact absurd k (by simp)
     · obtain⟨b,e1,e2⟩:=i2 s h1 (by omega) hb
       exact e2 (AD k (b2 b e1))
theorem JS{n:Nat}{X:List Nat}(h:UpX n X):X.length≤n:=by
 obtain⟨s, -,rfl⟩:=AB h
 have:=List.length_filter_le (qw s) (List.range n)
 rw[List.length_range]at this;exact this
theorem Dp(W:List (List Int))(S:List Int):jq W S (2 ^ W.length-1)=ic W S:=by
 obtain⟨i1,i2⟩:=rM W S (2 ^ W.length-1)
 have nz:∀s,0<s→s<2 ^ W.length→ax W.length s≠[]:=fun s h0 h1 e=>by
  unfold ax at e
  rw[List.filter_eq_nil_iff]at e
  obtain⟨i,hi⟩:=Nat.exists_testBit_of_ne_zero (x:=s) (by omega)
  have il:i<W.length:=by
   refine Classical.byContradiction fun k=>?_
   have:s<2 ^ i:=Nat.lt_of_lt_of_le h1 (Nat.pow_le_pow_right (by omega) (by omega))
   rw[Nat.testBit_lt_two_pow this]at hi
   exact absurd hi (by simp)
  have:=e i (aLu.2 il)
  rw[Nat.testBit_eq_decide_div_mod_eq]at hi
  exact this hi
 have mk:∀X,X≠[]→UpX W.length X→∃s,0<s∧s≤2 ^ W.length-1∧X=ax W.length s:=fun X hx hu=>by
  obtain⟨s,a,e⟩:=AB hu
  refine⟨s,Nat.pos_of_ne_zero fun z=>?_,by omega,e⟩
  subst z
  rw[lY]at e
  exact hx e
 cases hs:ic W S with
 | none=>
   cases hb:jq W S (2 ^ W.length-1)with
   | none=>rfl
   | some b=>
     obtain⟨b1,s,s0,rfl⟩:=i1 b hb
     have u:=vL W.length s
     by_cases e:ax W.length s=[]
     · rw[e]at b1
       unfold rL eT fy at b1
       simp[fw]at b1
     · rw[tV hs e u (JS u)]at b1
       exact absurd b1 (by simp)
 | some l=>
   obtain⟨l0,lu,ll,lb,ls,lm⟩:=oA hs
   obtain⟨s,s0,s1,e⟩:=mk l l0 lu
   obtain⟨b,hb,nl⟩:=i2 s s0 s1 (by rw[← e];exact lb)
   rw[← e]at nl
   obtain⟨b1,t,t0,eb⟩:=i1 b hb
   have u:UpX W.length b:=by rw[eb];exact vL W.length t
   have bn:b≠[]:=fun k=>by
    rw[k]at b1
    unfold rL eT fy at b1
    simp[fw]at b1
   have n1:¬b.length<l.length:=fun k=>by
    rw[ls b bn u k]at b1
    exact absurd b1 (by simp)
   have n2:¬l.length<b.length:=fun k=>nl (.inl k)
   have el:l.length=b.length:=by omega
   have n3:=lm b u (by omega) b1
   have n4:ly l b=false:=by
    cases k:ly l b with
    | false=>rfl
    | true=>exact absurd (.inr ⟨el,k⟩) nl
   rw[hb,vK el n4 n3]
end Go.Ev
namespace Go.Ev
open Go
variable [Lib] [aO] [aN] [bS] [bT] [df] [bO] [bP] [cM] [cH] [a7] [bq] [cB] [cC] [iS] [iT] [jY] [jo] [jZ] [fP] [du] [kY]
abbrev cN(X:List Nat):List Int:=X.map fun(i:Nat)=>(i:Int)
theorem rN(H:ab)(es:List T):jT H (.cl es,[])=some (.cl es,H):=by simp[jT,rr,ren,depth,aB]
theorem JT(l:List Int):bD 1 N.aD [.t (tL l)] []=some (.cl (l.map (.int .i64)),[]):=by
 refine bI K.c9 rfl ?_
 have s3:evO bD (X.get [.t (tL l),.nil] [I l.length,.t (tL l),I l.length,.t (tL l),.t (tL l)]) [] (.s3 (.l 4) (.l 2) (.l 0))=some (.cl (l.map (.int .i64)),[]):=by
  simp only[evO,X.get,List.getElem?_cons_succ,List.getElem?_cons_zero,aLq,intOf,Bv,tL,List.length_map,and_self,if_true,aLw]
 simp only[tL]at*
 have od:old 0 8 (.cl (l.map (Ev.T.int .i64)))=true:=rfl
 simp(disch:=omega)only[go_sem,K.aD,↓reduceIte,s3,od,reduceAdd,reduceSub]
theorem rO(H:ab)(l:List Int)(x:Int)(h:l.length≤1000):fL H 1 true (some (.cl (l.map (Ev.T.int .i64)))) (some (.t (.sl [Ev.T.int .i64 x])))=some (.ref H.length 0 (l.length+1),H++[.arr 1 false 0 ((l.map (Ev.T.int .i64)).map .t++[I x])]):=by
 have hs:aF 1 ((l.map (Ev.T.int .i64)).map D.t)=true:=by cases l<;>rfl
 simp only[fL,aLq,eF,elems,List.map_cons,List.map_nil,aB,frz,if_true,aLw,List.flatMap_cons,List.flatMap_nil,bF,pins,List.append_nil,List.length_map,aLv,List.length_singleton]
 rw[if_pos (show aF 1 [D.t (T.int IntKind.i64 x)]=true from rfl),if_pos ⟨by omega,by unfold lim;omega,hs⟩]
 rfl
theorem jf(H:ab)(x:T)(xs:List T):gK H .sl true (some (.t (.sl (x::xs)))) (some .nil)=some (B true,H):=rfl
abbrev qx:Option (List Nat)→D
 | some l=> .t (tL (cN l))
 | none=> .nil
theorem JU{W:List (List Int)}{S:List Int}(hW:W.length≤12)(hS:S.length≤1000)(hl:∀i,(nth W i).length≤1000000){size:Nat}(sz:size≤12)(s0:0<size):∀(k:Nat) (b:List Nat) (next:Nat),b.length+k=size→(∀x∈b,x<W.length)→next≤W.length→
 bD 1 N.aR [.t (.sl (W.map tL)),.t (tL S),.t (tL (cN b)),I next,I size] []=some (qx (cL W S k b next),[]):=by
 intro k
 induction k with
 | zero=>
   intro b next hb hm hn
   refine bI K.eS rfl ?_
   have cl:(cN b).length=size:=by rw[List.length_map];omega
   have pm:(aK W b).length=size:=by rw[List.length_map];omega
   have mo:=(kV (W:=aK W b) (S:=S) (by omega) hS (fun i=>nq hl b i)).1
   have pk:cL W S 0 b next=if fy (aK W b) S<size then some b else none:=by
    obtain⟨-,c,e, -,cw⟩:=kV (W:=aK W b) (S:=S) (by omega) hS (fun i=>nq hl b i)
    rw[cL]
    unfold rL eT
    rw[pm]
    by_cases h:fy (aK W b) S<size
    · rw[if_pos h,decide_eq_false (by omega)];rfl
    · rw[if_neg h,decide_eq_true (by omega)];rfl
   rw[pk]
   have lp:∀z3 z5 z7 z8 z9:D,exS bD K.jF ⟨[.t (.sl (W.map tL)),.t (tL S),.t (tL (cN b)),z3,I size,z5,.ref 0 0 0,z7,z8,z9,.t (tL (cN b)),I size,I 0],[.arr 1 false 0 []]⟩=
    some (.exit 0,⟨[.t (.sl (W.map tL)),.t (tL S),.t (tL (cN b)),.und,I size,.und,.ref 0 0 size,.und,.und,.und,.t (tL (cN b)),I size,I size],[.arr 1 false 0 (((aK W b).map tL).map .t)]⟩):=by
    intro z3 z5 z7 z8 z9
    refine ea (fun j=>⟨[.t (.sl (W.map tL)),.t (tL S),.t (tL (cN b)),.und,I size,.und,.ref 0 0 j,.und,.und,.und,.t (tL (cN b)),I size,I j],[.arr 1 false 0 (((aK W (b.take j)).map tL).map .t)]⟩) size rfl ?_ ?_ (by simp)
    · intro j hj
      have bg:=bB (l:=cN b) (Ev.T.int .i64) (j:=j) (by omega)
      have jb:j<b.length:=by omega
      have nb:nth (cN b) j=((nth b j:Nat):Int):=by
       unfold nth
       rw[aLl,aLl,aLn,aLc jb];rfl
      have bm:nth b j<W.length:=hm _ (gM jb)
      have wg:=bB (l:=W) tL bm
      have tk:aK W (b.take (j+1))=aK W (b.take j)++[nth W (nth b j)]:=by
       rw[uO jb];simp[aK]
      have rl:(aK W (b.take j)).length=j:=by rw[List.length_map,List.length_take];omega
      rw[nb]at bg
      rw[tk]
      clear mo pk pm tk nb
      generalize aK W (b.take j)=R at*
      generalize nth b j=x at*
      generalize nth W x=y at*
      subst rl
      generalize cN b=cb at*
      subst cl
      simp only[tL]at*
      simp(disch:=omega)only[go_sem,K.fg,↓reduceIte,bg,wg,reduceAdd,reduceSub]
    · rw[List.take_of_length_le (by omega)]
      clear mo pk
      generalize cN b=cb at*
      subst cl
      simp only[tL]at*
      simp(disch:=omega)only[go_sem,K.fg,↓reduceIte,reduceAdd,reduceSub]
   generalize aK W b=R at*
   by_cases c:fy R S<size
   · rw[if_pos c]
     show _=some (D.t (tL (cN b)),[])
     generalize cN b=cb at*
     clear pk
     subst cl
     simp only[tL]at*
     simp(disch:=omega)only[go_sem,K.aR,↓reduceIte,lp,mo,c,reduceAdd,reduceSub]
   · rw[if_neg c]
     show _=some (D.nil,[])
     have lw:∀z3 z5 z7 z8 z9:D,exS bD K.ed ⟨[.t (.sl (W.map tL)),.t (tL S),.t (tL (cN b)),z3,I size,z5,.ref 0 0 0,z7,z8,z9,.t (tL (cN b)),I size,I 0],[.arr 1 false 0 []]⟩=exS bD K.ed ⟨[.t (.sl (W.map tL)),.t (tL S),.t (tL (cN b)),z3,I size,z5,.ref 0 0 0,z7,z8,z9,.t (tL (cN b)),I size,I 0],[.arr 1 false 0 []]⟩:=fun _ _ _ _ _=>rfl
     generalize cN b=cb at*
     clear pk lw
     subst cl
     simp only[tL]at*
     simp(disch:=omega)only[go_sem,K.aR,↓reduceIte,lp,mo,c,reduceAdd,reduceSub]
 | succ k ih=>
   intro b next hb hm hn
   refine bI K.eS rfl ?_
   have cl:(cN b).length=b.length:=List.length_map _
   have ne:¬(b.length:Int)=(size:Int):=by omega
   have cp:=JT (cN b)
   have rc:∀j,j<W.length-next→bD 1 N.aR [.t (.sl (W.map tL)),.t (tL S),.t (.sl ((cN b).map (Ev.T.int .i64)++[tI (next+j:Nat)])),I ((next+j+1:Nat):Int),I size] []=some (qx (cL W S k (b++[next+j]) (next+j+1)),[]):=fun j hj=>by
    have:=ih (b++[next+j]) (next+j+1) (by rw[aLv,List.length_singleton];omega) (fun x hx=>by
     rcases List.mem_append.1 hx with h | h
     · exact hm x h
     · rw[List.mem_singleton.1 h];omega) (by omega)
    simp only[tL,cN,List.map_append,List.map_cons,List.map_nil]at this ⊢
    exact this
   have lp:∀z3 z5 z6 z7 z9 z10 z11 z12:D,exS bD K.ed ⟨[.t (.sl (W.map tL)),.t (tL S),.t (tL (cN b)),z3,I size,z5,z6,z7,I next,z9,z10,z11,z12],[]⟩=
    some (match (List.range (W.length-next)).find? (fun j=>(cL W S k (b++[next+j]) (next+j+1)).isSome)with
     | some j=>(.ret,⟨[.t (.sl (W.map tL)),.t (tL S),.t (tL (cN b)),.und,I size,qx (cL W S k (b++[next+j]) (next+j+1)),.und,.und,I (next+j:Nat),qx (cL W S k (b++[next+j]) (next+j+1)),.und,.und,.und],[.arr 1 true 0 (ints (cN b)++[I (next+j:Nat)])]⟩)
     | none=>(.exit 2,⟨[.t (.sl (W.map tL)),.t (tL S),.t (tL (cN b)),.und,I size,.und,.und,.und,I W.length,.und,.und,.und,.und],[]⟩)):=by
    intro z3 z5 z6 z7 z9 z10 z11 z12
    refine dD (fun j=>⟨[.t (.sl (W.map tL)),.t (tL S),.t (tL (cN b)),.und,I size,.und,.und,.und,I (next+j:Nat),.und,.und,.und,.und],[]⟩) (W.length-next) _ (fun j=>(.ret,⟨[.t (.sl (W.map tL)),.t (tL S),.t (tL (cN b)),.und,I size,qx (cL W S k (b++[next+j]) (next+j+1)),.und,.und,I (next+j:Nat),qx (cL W S k (b++[next+j]) (next+j+1)),.und,.und,.und],[.arr 1 true 0 (ints (cN b)++[I (next+j:Nat)])]⟩)) _ rfl ?_ ?_ ?_ (by simp)
    · intro j hj hp
      have r:=rc j hj
      cases hx:cL W S k (b++[next+j]) (next+j+1)with
      | some l=>rw[hx]at hp;simp at hp
      | none=>
        rw[hx]at r
        simp only[qx]at r
        rw[show next+(j+1)=next+j+1 by omega]
        have nj:next+j<W.length:=by omega
        have e1:((next+j+1:Nat):Int)=((next+j:Nat):Int)+1:=by omega
        rw[e1]at r ⊢
        generalize next+j=x at*
        clear rc ih hx hp ne
        generalize cN b=cb at*
        have oa:=fun H x=>rO H cb x (by omega)
        simp only[tL]at*
        simp(disch:=omega)only[go_sem,K.dP,↓reduceIte,cp,r,oa,je,rN,gv,jf,reduceAdd,reduceSub]
    · intro j hj hp
      have r:=rc j hj
      cases hx:cL W S k (b++[next+j]) (next+j+1)with
      | none=>rw[hx]at hp;simp at hp
      | some l=>
        have l0:∃y Y,cN l=y::Y:=by
         have sp:=eV W S k (b++[next+j]) (next+j+1)
         rw[hx]at sp
         obtain⟨⟨Y,rfl, -⟩, -⟩:=sp
         cases b with
         | nil=>exact⟨_,_,rfl⟩
         | cons z b=>exact⟨_,_,rfl⟩
        rw[hx]at r
        simp only[qx]at r ⊢
        obtain⟨y,Y,e⟩:=l0
        rw[e]at r ⊢
        have nj:next+j<W.length:=by omega
        have e1:((next+j+1:Nat):Int)=((next+j:Nat):Int)+1:=by omega
        rw[e1]at r
        refine⟨?_,by simp⟩
        generalize next+j=x at*
        clear rc ih hx hp ne
        generalize cN b=cb at*
        have oa:=fun H x=>rO H cb x (by omega)
        simp only[tL,ints,List.map_cons]at*
        simp(disch:=omega)only[go_sem,K.dP,↓reduceIte,cp,r,oa,je,rN,gv,jf,reduceAdd,reduceSub]
    · have:next+(W.length-next)=W.length:=by omega
      rw[this]
      clear rc ih cp ne
      simp only[tL]at*
      simp(disch:=omega)only[go_sem,K.dP,↓reduceIte,reduceAdd,reduceSub]
   rw[cL]
   cases hf:(List.range (W.length-next)).find? (fun j=>(cL W S k (b++[next+j]) (next+j+1)).isSome)with
   | none=>
     simp only[hf]at lp
     simp only[qx]
     clear rc ih cp hf
     generalize cN b=cb at*
     rw[← cl]at ne
     simp only[tL]at*
     simp(disch:=omega)only[go_sem,K.aR,↓reduceIte,lp,ne,reduceAdd,reduceSub]
   | some j=>
     simp only[hf]at lp
     have hp:=List.find?_some hf
     cases hx:cL W S k (b++[next+j]) (next+j+1)with
     | none=>rw[hx]at hp;simp at hp
     | some l=>
       rw[hx]at lp
       simp only[qx]at lp ⊢
       rw[hx]
       simp only
       clear rc ih cp hf hp hx
       generalize cN b=cb at*
       rw[← cl]at ne
       simp only[tL,ints]at*
       simp(disch:=omega)only[go_sem,K.aR,↓reduceIte,lp,ne,reduceAdd,reduceSub]
theorem AE{W:List (List Int)}{S:List Int}(hW:W.length≤12)(hS:S.length≤1000)(hl:∀i,(nth W i).length≤1000000):
 bD 0 N.bo [.t (.sl (W.map tL)),.t (tL S)] []=some (.t (tL (cN ((ic W S).getD []))),[]):=by
 refine bI K.fT rfl ?_
 have rc:∀j,j<W.length→bD 1 N.aR [.t (.sl (W.map tL)),.t (tL S),.t (.sl []),I 0,I ((j:Int)+1)] []=some (qx (cL W S (j+1) [] 0),[]):=fun j hj=>by
  have:=JU hW hS hl (size:=j+1) (by omega) (by omega) (j+1) [] 0 (by simp) (by simp) (Nat.zero_le _)
  rw[show((j+1:Nat):Int)=(j:Int)+1 by omega]at this
  exact this
 have lp:∀z2 z4:D,exS bD K.iL ⟨[.t (.sl (W.map tL)),.t (tL S),z2,I 1,z4],[]⟩=
  some (match (List.range W.length).find? (fun j=>(cL W S (j+1) [] 0).isSome)with
   | some j=>(.ret,⟨[.t (.sl (W.map tL)),.t (tL S),qx (cL W S (j+1) [] 0),I ((j:Int)+1),qx (cL W S (j+1) [] 0)],[]⟩)
   | none=>(.exit 0,⟨[.t (.sl (W.map tL)),.t (tL S),.und,I ((W.length:Int)+1),.und],[]⟩)):=by
  intro z2 z4
  refine dD (fun j=>⟨[.t (.sl (W.map tL)),.t (tL S),.und,I ((j:Int)+1),.und],[]⟩) W.length _ (fun j=>(.ret,⟨[.t (.sl (W.map tL)),.t (tL S),qx (cL W S (j+1) [] 0),I ((j:Int)+1),qx (cL W S (j+1) [] 0)],[]⟩)) _ rfl ?_ ?_ ?_ (by simp)
  · intro j hj hp
    have r:=rc j hj
    cases hx:cL W S (j+1) [] 0 with
    | some l=>rw[hx]at hp;simp at hp
    | none=>
      rw[hx]at r
      simp only[qx,tL]at*
      have mn:((j:Int)+1≤min (W.length:Int) 12):=by omega
      clear rc
      simp(disch:=omega)only[go_sem,K.dw,↓reduceIte,r,mn,je,gv,jf,reduceAdd,reduceSub]
  · intro j hj hp
    have r:=rc j hj
    cases hx:cL W S (j+1) [] 0 with
    | none=>rw[hx]at hp;simp at hp
    | some l=>
      have l0:∃y Y,cN l=y::Y:=by
       have sp:=eV W S (j+1) [] 0
       rw[hx]at sp
       obtain⟨⟨Y,e,y1, -⟩, -⟩:=sp
       rw[List.nil_append]at e
       rw[e]
       cases Y with
       | nil=>simp at y1
       | cons z b=>exact⟨_,_,rfl⟩
      obtain⟨y,Y,e⟩:=l0
      rw[hx]at r
      simp only[qx,tL]at*
      rw[e]at r ⊢
      have mn:((j:Int)+1≤min (W.length:Int) 12):=by omega
      refine⟨?_,by simp⟩
      clear rc
      simp only[List.map_cons]at*
      simp(disch:=omega)only[go_sem,K.dw,↓reduceIte,r,mn,je,gv,jf,reduceAdd,reduceSub]
  · have mn:¬((W.length:Int)+1≤min (W.length:Int) 12):=by omega
    clear rc
    simp only[tL]at*
    simp(disch:=omega)only[go_sem,K.dw,↓reduceIte,mn,reduceAdd,reduceSub]
 unfold ic
 cases hf:(List.range W.length).find? (fun j=>(cL W S (j+1) [] 0).isSome)with
 | none=>
   simp only[hf]at lp
   show _=some (D.t (.sl []),[])
   clear rc hf
   simp only[tL]at*
   simp(disch:=omega)only[go_sem,K.bo,↓reduceIte,lp,reduceAdd,reduceSub]
 | some j=>
   simp only[hf]at lp
   have hp:=List.find?_some hf
   cases hx:cL W S (j+1) [] 0 with
   | none=>rw[hx]at hp;simp at hp
   | some l=>
     simp only[hx,qx]at lp
     simp only[hx,Option.getD_some]
     clear rc hf hp hx
     generalize cN l=cb at*
     simp only[tL]at*
     simp(disch:=omega)only[go_sem,K.bo,↓reduceIte,lp,reduceAdd,reduceSub]
theorem AF:∀ {a b:List Nat} {j:Nat},a.length=b.length→j<a.length→nth a j≠nth b j→(∀i,i<j→nth a i=nth b i)→ly a b=decide (nth a j<nth b j)
 | [],b,j,_,h,_,_=>by simp at h
 | x::a,[],j,h,_,_,_=>by simp at h
 | x::a,y::b,0,h,hj,hn,_=>by
   have e:¬x=y:=hn
   rw[ly,if_neg e];rfl
 | x::a,y::b,j+1,h,hj,hn,hs=>by
   have e:x=y:=hs 0 (by omega)
   rw[ly,if_pos e,AF (j:=j) (by simpa using h) (by simpa using hj) hn fun i hi=>hs (i+1) (by omega)]
   rfl
theorem vM(a:List Nat)(j:Nat)(h:j<a.length):nth (cN a) j=((nth a j:Nat):Int):=by
 unfold nth
 rw[aLl,aLl,aLn,aLc h];rfl
theorem Dq(a b:List Nat)(h:a.length=b.length)(hl:a.length≤1000):bD 0 N.b5 [.t (tL (cN a)),.t (tL (cN b))] []=some (B (ly a b),[]):=by
 refine bI K.iR rfl ?_
 have la:(cN a).length=a.length:=List.length_map _
 have lp:∀z2:D,exS bD K.kX ⟨[.t (tL (cN a)),.t (tL (cN b)),z2,I 0],[]⟩=some (match (List.range a.length).find? (fun j=>decide (nth a j≠nth b j))with
  | some j=>(.ret,⟨[.t (tL (cN a)),.t (tL (cN b)),B (decide (nth a j<nth b j)),I j],[]⟩)
  | none=>(.exit 0,⟨[.t (tL (cN a)),.t (tL (cN b)),.und,I a.length],[]⟩)):=by
  intro z2
  refine dD (fun j=>⟨[.t (tL (cN a)),.t (tL (cN b)),.und,I j],[]⟩) a.length _ (fun j=>(.ret,⟨[.t (tL (cN a)),.t (tL (cN b)),B (decide (nth a j<nth b j)),I j],[]⟩)) _ rfl ?_ ?_ ?_ (by simp)
  · intro j hj hp
    have g1:=bB (l:=cN a) (Ev.T.int .i64) (j:=j) (by omega)
    have g2:=bB (l:=cN b) (Ev.T.int .i64) (j:=j) (by rw[List.length_map];omega)
    rw[vM a j hj]at g1
    rw[vM b j (by omega)]at g2
    rw[decide_eq_false_iff_not]at hp
    have e:nth a j=nth b j:=by omega
    rw[e]at g1
    generalize nth b j=x at*
    clear hp e h
    generalize cN a=ca at*
    generalize cN b=cb at*
    simp only[tL]at*
    simp(disch:=omega)only[go_sem,K.eh,↓reduceIte,g1,g2,la,decide_true,Bool.not_true,aLt,reduceAdd,reduceSub]
  · intro j hj hp
    have g1:=bB (l:=cN a) (Ev.T.int .i64) (j:=j) (by omega)
    have g2:=bB (l:=cN b) (Ev.T.int .i64) (j:=j) (by rw[List.length_map];omega)
    rw[vM a j hj]at g1
    rw[vM b j (by omega)]at g2
    rw[decide_eq_true_iff]at hp
    have ne:¬((nth a j:Nat):Int)=((nth b j:Nat):Int):=by omega
    have lt:decide (nth a j<nth b j)=decide (((nth a j:Nat):Int)<((nth b j:Nat):Int)):=by congr 1;exact propext (by omega)
    rw[lt]
    refine⟨?_,by simp⟩
    clear hp lt h
    generalize nth b j=x at*
    generalize nth a j=y at*
    generalize cN a=ca at*
    generalize cN b=cb at*
    simp only[tL]at*
    simp(disch:=omega)only[go_sem,K.eh,↓reduceIte,g1,g2,la,ne,decide_false,Bool.not_false,reduceAdd,reduceSub]
  · clear h
    generalize cN a=ca at*
    generalize cN b=cb at*
    simp only[tL]at*
    simp(disch:=omega)only[go_sem,K.eh,↓reduceIte,la,reduceAdd,reduceSub]
 cases hf:(List.range a.length).find? (fun j=>decide (nth a j≠nth b j))with
 | some j=>
   obtain⟨f1,f2,f3⟩:=List.find?_range_eq_some.1 hf
   rw[AF h (aLu.1 f2) (by simpa using f1) fun i hi=>by simpa using f3 i hi]
   simp only[hf]at lp
   generalize decide (nth a j<nth b j)=r at*
   clear hf f1 f2 f3 h
   generalize cN a=ca at*
   generalize cN b=cb at*
   simp only[tL]at*
   simp(disch:=omega)only[go_sem,K.b5,↓reduceIte,lp,reduceAdd,reduceSub]
 | none=>
   have e:a=b:=by
    apply List.ext_getElem?
    intro i
    by_cases c:i<a.length
    · have:=List.find?_eq_none.1 hf i (aLu.2 c)
      rw[fD c,fD (by omega:i<b.length)]
      simpa using this
    · rw[aLm (by omega),aLm (by omega)]
   rw[← e,lk]
   rw[← e]at lp hf
   simp only[hf]at lp
   clear hf h e
   generalize cN a=ca at*
   simp only[tL]at*
   simp(disch:=omega)only[go_sem,K.b5,↓reduceIte,lp,reduceAdd,reduceSub]
theorem vN(H:ab)(o:Obj):(H++[o])[H.length]?=some o:=List.getElem?_concat_length ..
theorem JV(H:ab)(o o':Obj):(H++[o]).set H.length o'=H++[o']:=by simp
theorem xh{W:List (List Int)}(hW:W.length≤12){s:Nat}(hs:s<1000000)(S:List Int)(d:D)(H:ab):∀z2:D,exS bD K.jD ⟨[.t (.sl (W.map tL)),.t (tL S),z2,d,I s,.ref H.length 0 0,I 0],H++[.arr 1 false 0 []]⟩=
 some (.exit 2,⟨[.t (.sl (W.map tL)),.t (tL S),.und,d,I s,.ref H.length 0 (ax W.length s).length,I W.length],H++[cQ (cN (ax W.length s))]⟩):=by
 intro z2
 refine ea (fun j=>⟨[.t (.sl (W.map tL)),.t (tL S),.und,d,I s,.ref H.length 0 (ax j s).length,I j],H++[cQ (cN (ax j s))]⟩) W.length rfl ?_ ?_ (by simp)
 · intro j hj
   have a1:=vN H
   have a2:=JV H
   have wu:=jd j (by omega)
   have sh:=tK s j (by omega)
   have dl:s / 2 ^ j<2 ^ 62:=by have:=Nat.div_le_self s (2 ^ j);omega
   have an:=tM (s / 2 ^ j) dl
   rw[tO]at an
   have ml:(cN (ax j s)).length=(ax j s).length:=List.length_map _
   have ll:=fH j s
   rw[lZ]
   by_cases c:qw s j=true
   · rw[if_pos c]at an ⊢
     simp only[cN,List.map_append,List.map_cons,List.map_nil,aLv,List.length_singleton]at ml ⊢
     generalize (ax j s).map (fun(i:Nat)=>(i:Int))=R at*
     generalize (ax j s).length=rl at*
     subst ml
     generalize s / 2 ^ j=q at*
     simp only[cQ,tL,List.map_append,List.map_cons,List.map_nil]at*
     simp(disch:=omega)only[go_sem,K.dO,↓reduceIte,wu,sh,an,a1,a2,reduceAdd,reduceSub]
   · rw[if_neg c]at an ⊢
     rw[List.append_nil]
     generalize cN (ax j s)=R at*
     generalize (ax j s).length=rl at*
     subst ml
     generalize s / 2 ^ j=q at*
     simp only[cQ,tL]at*
     simp(disch:=omega)only[go_sem,K.dO,↓reduceIte,wu,sh,an,reduceAdd,reduceSub]
 · simp only[cQ,tL]at*
   simp(disch:=omega)only[go_sem,K.dO,↓reduceIte,reduceAdd,reduceSub]
def vO(H:ab)(d:D):Option (List Nat)→Prop
 | none=>d= .nil
 | some b=>∃k,d= .ref k 0 b.length∧H[k]?=some (cQ (cN b))∧b≠[]
theorem AG{W:List (List Int)}{S:List Int}(hW:W.length≤12)(hS:S.length≤1000)(hl:∀i,(nth W i).length≤1000000):
 bD 0 N.bR [.t (.sl (W.map tL)),.t (tL S)] []=some (.t (tL (cN ((jq W S (2 ^ W.length-1)).getD []))),[]):=by
 refine bI K.gR rfl ?_
 have p1:2 ^ W.length≤2 ^ 12:=Nat.pow_le_pow_right (by omega) hW
 have p0:1≤2 ^ W.length:=Nat.one_le_two_pow
 have wu:=jd W.length (by omega)
 have sl:=tN W.length hW
 have lp:∀z2 z5 z6:D,∃q,exS bD K.jE ⟨[.t (.sl (W.map tL)),.t (tL S),z2,.nil,I 1,z5,z6],[]⟩=some q∧
  ∃H d,vO H d (jq W S (2 ^ W.length-1))∧q=(.exit 0,⟨[.t (.sl (W.map tL)),.t (tL S),.und,d,I ((2 ^ W.length:Nat):Int),.und,.und],H⟩):=by
  intro z2 z5 z6
  refine uV (fun j st=>∃H d,vO H d (jq W S j)∧st=⟨[.t (.sl (W.map tL)),.t (tL S),.und,d,I ((j+1:Nat):Int),.und,.und],H⟩) (2 ^ W.length-1) _ ⟨[],.nil,rfl,rfl⟩ ?_ ?_
  · rintro j st hj ⟨H,d,ba,rfl⟩
    left
    have so:=vH hW (s:=j+1) (by omega)
    have l2:=xh hW (s:=j+1) (by omega) S d H
    have ho:=ox (W:=aK W (ax W.length (j+1))) (S:=S) (by rw[List.length_map];have:=fH W.length (j+1);omega) hS (nq hl _)
    have lj:((j+1:Nat):Int)<((2 ^ W.length:Nat):Int):=by omega
    have wj:IntKind.i64.wrap (((j+1:Nat):Int)+1)=((j+1+1:Nat):Int):=bY (by omega) (by omega)
    have a1:=vN H
    have ml:=fH W.length (j+1)
    have ml2:(cN (ax W.length (j+1))).length=(ax W.length (j+1)).length:=List.length_map _
    have mne:ax W.length (j+1)≠[]:=fun e=>by
     unfold ax at e
     rw[List.filter_eq_nil_iff]at e
     obtain⟨i,hi⟩:=Nat.exists_testBit_of_ne_zero (x:=j+1) (by omega)
     have il:i<W.length:=by
      refine Classical.byContradiction fun k=>?_
      have:j+1<2 ^ i:=Nat.lt_of_lt_of_le (by omega) (Nat.pow_le_pow_right (by omega:2>0) (by omega:W.length≤i))
      rw[Nat.testBit_lt_two_pow this]at hi
      exact absurd hi (by simp)
     have:=e i (aLu.2 il)
     rw[Nat.testBit_eq_decide_div_mod_eq]at hi
     exact this hi
    have le:∀b:List Nat,(ax W.length (j+1)).length=b.length→bD 0 N.b5 [.t (tL (cN (ax W.length (j+1)))),.t (tL (cN b))] []=some (B (ly (ax W.length (j+1)) b),[]):=fun b h=>Dq _ b h (by omega)
    rw[jq]
    unfold xf
    generalize ax W.length (j+1)=l at*
    generalize aK W l=R at*
    generalize eT R S=f at*
    generalize ((j+1+1:Nat):Int)=st2 at*
    generalize ((j+1:Nat):Int)=st at*
    clear hl
    generalize 2 ^ W.length=two at*
    cases hb:jq W S j with
    | none=>
      rw[hb]at ba
      change d= .nil at ba
      subst ba
      simp only[Bool.false_or]
      cases f with
      | true=>
        refine⟨_,?_,H++[cQ (cN l)],.nil,by rw[if_pos rfl];rfl,rfl⟩
        clear le mne
        generalize cN l=cl at*
        simp only[cQ,tL]at*
        simp(disch:=omega)only[go_sem,K.aU,↓reduceIte,wu,sl,lj,l2,so,ho,wj,reduceAdd,reduceSub]
      | false=>
        refine⟨_,?_,H++[cQ (cN l)],.ref H.length 0 l.length,by rw[if_neg (by simp)];exact⟨_,rfl,vN _ _,mne⟩,rfl⟩
        clear le mne
        generalize cN l=cl at*
        simp only[cQ,tL]at*
        simp(disch:=omega)only[go_sem,K.aU,↓reduceIte,wu,sl,lj,l2,so,ho,wj,reduceAdd,reduceSub]
    | some b=>
      rw[hb]at ba
      obtain⟨k,rfl,hk,bn⟩:=ba
      have kl:k<H.length:=(aLe.1 hk).1
      have gk:(H++[cQ (cN l)])[k]?=some (cQ (cN b)):=by rw[aLg kl];exact hk
      have bl:(cN b).length=b.length:=List.length_map _
      obtain⟨bp,hbp⟩:∃x,b.length=x+1:=⟨b.length-1,by have:=List.length_pos_iff.2 bn;omega⟩
      have nn:∀J:ab,gK J .sl true (some (.ref k 0 b.length)) (some .nil)=some (B true,J):=fun J=>by rw[hbp];rfl
      have keep:vO (H++[cQ (cN l)]) (.ref k 0 b.length) (some b):=⟨k,rfl,gk,bn⟩
      have take:vO (H++[cQ (cN l)]) (.ref H.length 0 l.length) (some l):=⟨_,rfl,vN _ _,mne⟩
      simp only
      by_cases c1:b.length<l.length
      · simp only[c1,decide_true,Bool.true_or,if_true]
        refine⟨_,?_,_,_,keep,rfl⟩
        have c2:(b.length:Int)<(l.length:Int):=by omega
        clear le mne keep take hb
        generalize cN l=cl at*
        generalize cN b=cb at*
        simp only[cQ,tL]at*
        simp(disch:=omega)only[go_sem,K.aU,↓reduceIte,wu,sl,lj,l2,so,ho,wj,nn,c2,decide_true,reduceAdd,reduceSub]
      · have c2:¬(b.length:Int)<(l.length:Int):=by omega
        simp only[c1,decide_false,Bool.false_or]
        by_cases c3:l.length=b.length
        · have c4:(l.length:Int)=(b.length:Int):=by omega
          have le:=le b c3
          simp only[c3,decide_true,Bool.true_and]
          generalize ly l b=x at*
          have a3:=a1 (cQ (cN l))
          rw[c3]at l2 take ml2
          cases x with
          | false=>
            simp only[Bool.not_false,Bool.true_or,if_true]
            refine⟨_,?_,_,_,keep,rfl⟩
            clear mne keep take hb
            generalize cN l=cl at*
            generalize cN b=cb at*
            simp only[cQ,tL]at*
            simp(disch:=omega)only[go_sem,K.aU,↓reduceIte,wu,sl,lj,l2,so,ho,wj,nn,c3,le,gk,a3,bl,ml2,decide_true,decide_false,Bool.not_false,reduceAdd,reduceSub]
          | true=>
            simp only[Bool.not_true,Bool.false_or]
            cases f with
            | true=>
              rw[if_pos rfl]
              refine⟨_,?_,_,_,keep,rfl⟩
              clear mne keep take hb
              generalize cN l=cl at*
              generalize cN b=cb at*
              simp only[cQ,tL]at*
              simp(disch:=omega)only[go_sem,K.aU,↓reduceIte,wu,sl,lj,l2,so,ho,wj,nn,c3,le,gk,a3,bl,ml2,decide_true,decide_false,Bool.not_true,reduceAdd,reduceSub]
            | false=>
              rw[if_neg (by simp)]
              refine⟨_,?_,_,_,take,rfl⟩
              clear mne keep take hb
              generalize cN l=cl at*
              generalize cN b=cb at*
              simp only[cQ,tL]at*
              simp(disch:=omega)only[go_sem,K.aU,↓reduceIte,wu,sl,lj,l2,so,ho,wj,nn,c3,le,gk,a3,bl,ml2,decide_true,decide_false,Bool.not_true,reduceAdd,reduceSub]
        · have c4:¬(l.length:Int)=(b.length:Int):=by omega
          simp only[c3,decide_false,Bool.false_and,Bool.false_or]
          cases f with
          | true=>
            rw[if_pos rfl]
            refine⟨_,?_,_,_,keep,rfl⟩
            clear le mne keep take hb
            generalize cN l=cl at*
            generalize cN b=cb at*
            simp only[cQ,tL]at*
            simp(disch:=omega)only[go_sem,K.aU,↓reduceIte,wu,sl,lj,l2,so,ho,wj,nn,c2,c4,decide_true,decide_false,reduceAdd,reduceSub]
          | false=>
            rw[if_neg (by simp)]
            refine⟨_,?_,_,_,take,rfl⟩
            clear le mne keep take hb
            generalize cN l=cl at*
            generalize cN b=cb at*
            simp only[cQ,tL]at*
            simp(disch:=omega)only[go_sem,K.aU,↓reduceIte,wu,sl,lj,l2,so,ho,wj,nn,c2,c4,decide_true,decide_false,reduceAdd,reduceSub]
  · rintro st ⟨H,d,ba,rfl⟩
    refine⟨_,?_,by simp,H,d,ba,rfl⟩
    have e:((2 ^ W.length-1+1:Nat):Int)=((2 ^ W.length:Nat):Int):=by omega
    rw[e]
    clear ba hl
    generalize 2 ^ W.length=two at*
    simp only[tL]at*
    simp(disch:=omega)only[go_sem,K.aU,↓reduceIte,wu,sl,reduceAdd,reduceSub]
 obtain⟨q,h1,H,d,ba,rfl⟩:=lp .nil .und .und
 cases hb:jq W S (2 ^ W.length-1)with
 | none=>
   rw[hb]at ba
   change d= .nil at ba
   subst ba
   show _=some (D.t (.sl []),[])
   clear hl p1 p0 sl
   generalize 2 ^ W.length=two at*
   simp only[tL]at*
   simp(disch:=omega)only[go_sem,K.bR,↓reduceIte,h1,reduceAdd,reduceSub]
 | some b=>
   rw[hb]at ba
   obtain⟨k,rfl,hk,bn⟩:=ba
   rw[Option.getD_some]
   have bl:(cN b).length=b.length:=List.length_map _
   clear hl p1 p0 sl hb
   generalize 2 ^ W.length=two at*
   generalize cN b=cb at*
   simp only[tL,cQ]at*
   simp(disch:=omega)only[go_sem,K.bR,↓reduceIte,h1,hk,bl,reduceAdd,reduceSub]
theorem xi{W:List (List Int)}{S:List Int}(hW:W.length≤12)(hS:S.length≤1000)(hl:∀i,(nth W i).length≤100000)(sk:fX S S.length):bD 0 N.cg [.t (.sl (W.map tL)),.t (tL S)] []=some (B true,[]):=by
 refine bI K.gP rfl ?_
 have hl2:∀i,(nth W i).length≤1000000:=fun i=>by have:=hl i;omega
 have c1:=xe hW hS hl sk
 have c2:=w9 hW hS hl2 sk
 have c3:=(kV hW hS hl2).1
 have c4:=Db hW hS hl2
 have c5:=AE hW hS hl2
 have c6:=AG hW hS hl2
 rw[Dp]at c6
 have al:(Df W S).length≤4294967296:=by
  unfold Df
  split
  · have:=(qk W sk W.length).2;omega
  · simp
 have sl:(cN ((ic W S).getD [])).length≤4294967296:=by
  rw[List.length_map]
  cases h:ic W S with
  | none=>simp
  | some l=>have:=(oA h).2.2.1;simp only[Option.getD_some];omega
 have s1:=y6 (Df W S) (Df W S) al
 have s2:=y6 _ (cN ((ic W S).getD [])) sl
 rw[decide_eq_true rfl]at s1 s2
 clear al sl
 generalize Df W S=A at*
 generalize cN ((ic W S).getD [])=X at*
 generalize fy W S=m at*
 generalize eT W S=f at*
 clear hl hl2 sk
 simp only[tL]at*
 simp(disch:=omega)only[go_sem,K.cg,↓reduceIte,c1,c2,c3,c4,c5,c6,s1,s2,decide_true,beq_self_eq_true,reduceAdd,reduceSub]
theorem Dr(aw:bD 0 N.bQ [] []=some (B true,[]))(W:List (List Int))(S:List Int)(hs:∀s∈S,s<9223372036854775808):bD 0 N.aJ [.t (.sl (W.map tL)),.t (tL S)] []=some (B true,[]):=by
 refine bI K.ec rfl ?_
 by_cases c1:W.length≤7
 · have c1':¬(W.length:Int)>7:=by omega
   by_cases c2:S.length≤30
   · have c2':¬(S.length:Int)>30:=by omega
     have lp:∀z2:D,exS bD K.fG ⟨[.t (.sl (W.map tL)),.t (tL S),z2,I 0],[]⟩=some (match (List.range W.length).find? (fun i=>decide (16<(nth W i).length))with
      | some i=>(.ret,⟨[.t (.sl (W.map tL)),.t (tL S),B true,I i],[]⟩)
      | none=>(.exit 0,⟨[.t (.sl (W.map tL)),.t (tL S),.und,I W.length],[]⟩)):=by
      intro z2
      refine dD (fun i=>⟨[.t (.sl (W.map tL)),.t (tL S),.und,I i],[]⟩) W.length _ (fun i=>(.ret,⟨[.t (.sl (W.map tL)),.t (tL S),B true,I i],[]⟩)) _ rfl ?_ ?_ ?_ (by simp)
      · intro i hi hp
        have wg:=bB (l:=W) tL hi
        rw[decide_eq_false_iff_not]at hp
        have c:¬(16:Int)<((nth W i).length:Int):=by omega
        generalize nth W i=w at*
        simp only[tL]at*
        simp(disch:=omega)only[go_sem,K.cJ,↓reduceIte,wg,c,reduceAdd,reduceSub]
      · intro i hi hp
        have wg:=bB (l:=W) tL hi
        rw[decide_eq_true_iff]at hp
        have c:(16:Int)<((nth W i).length:Int):=by omega
        refine⟨?_,by simp⟩
        generalize nth W i=w at*
        simp only[tL]at*
        simp(disch:=omega)only[go_sem,K.cJ,↓reduceIte,wg,c,aw,reduceAdd,reduceSub]
      · simp only[tL]at*
        simp(disch:=omega)only[go_sem,K.cJ,↓reduceIte,reduceAdd,reduceSub]
     cases hf:(List.range W.length).find? (fun i=>decide (16<(nth W i).length))with
     | some i=>
       simp only[hf]at lp
       clear hf hs
       simp only[tL]at*
       simp(disch:=omega)only[go_sem,K.aJ,↓reduceIte,c1',c2',lp,decide_false,reduceAdd,reduceSub]
     | none=>
       have hl:∀i,(nth W i).length≤100000:=fun i=>by
        by_cases l:i<W.length
        · have:=List.find?_eq_none.1 hf i (aLu.2 l)
          simp only[decide_eq_true_eq]at this
          omega
        · rw[qi l];exact Nat.zero_le _
       have ag:=xi (W:=W) (S:=S) (by omega) (by omega) hl ⟨rfl,fun i=>by
        by_cases l:i<S.length
        · exact hs _ (gM l)
        · unfold nth;rw[aLl,aLm (by omega)];show(0:Int)<_;omega⟩
       simp only[hf]at lp
       clear hf hs hl
       simp only[tL]at*
       simp(disch:=omega)only[go_sem,K.aJ,↓reduceIte,c1',c2',lp,aw,ag,decide_false,reduceAdd,reduceSub]
   · have c2':(S.length:Int)>30:=by omega
     clear hs
     simp only[tL]at*
     simp(disch:=omega)only[go_sem,K.aJ,↓reduceIte,c1',c2',aw,decide_false,decide_true,reduceAdd,reduceSub]
 · have c1':(W.length:Int)>7:=by omega
   clear hs
   simp only[tL]at*
   simp(disch:=omega)only[go_sem,K.aJ,↓reduceIte,c1',aw,decide_true,reduceAdd,reduceSub]
end Go.Ev
