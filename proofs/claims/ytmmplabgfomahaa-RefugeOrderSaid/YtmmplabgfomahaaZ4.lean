/- Parts of the proof: see the text that holds the theorem. -/
import Derived.Test.YtmmplabgfomahaaZ3
set_option linter.all false
open Nat (reduceAdd reduceSub)
set_option maxRecDepth 100000
namespace Go.Ev
open Go
variable [Lib] [aM] [aO] [bM] [bP] [di] [bU] [bV] [cH] [cG] [bG] [bN] [dK] [dL] [iw] [ec]
abbrev wX(i j L wl:Nat)(l:List Int):List D:=[.bp 0 0,I i,.ref 1 0 L,.und,.und,.und,.und,.t (tL l),I wl,I j,.und,.und,.und]
theorem wY{W:List (List Int)}{S:List Int}{T:List Bool}{G:List (List Int)}{n:Nat}(hn:n<G.length)(hne:nth G n≠[])(i:Int):
 (.box [.t (.sl (W.map tL)),.t (tL S),.ref 2 0 G.length]:: .arr 1 false 0 (bls T):: .arr 1 false 0 ((esT G (fun n=>3+rk G n) G.length).set n (.ref (3+rk G n) 0 ((nth G n).length+1)))::(aT G G G.length).set (rk G n) (arA (nth G n++[i])):ab)=
 dt W S T (G.set n (nth G n++[i])) (fK G) (aT G (G.set n (nth G n++[i])) G.length++[]):=by
 have e1:=qx (G:=G) (G2:=G.set n (nth G n++[i])) (f:=fun n=>3+rk G n) (f2:=fK G) G.length hn (fun k hk hkn=>by
  rw[aU (fun z=>hkn z.symm)]
  exact⟨Iff.rfl,fun h=>⟨by unfold fK;rw[if_neg h],rfl⟩⟩)
 rw[bR hn,if_neg (by simp)]at e1
 have f:fK G n=3+rk G n:=by unfold fK;rw[if_neg hne]
 rw[f,aLv,List.length_singleton]at e1
 have e2:=wT (G1:=G) (G2:=G.set n (nth G n++[i])) hne G.length hn (fun k hk hkn _=>by rw[aU (fun z=>hkn z.symm)])
 rw[bR hn]at e2
 simp only[dt,e1,e2,List.length_set,List.append_nil]
theorem wZ{W:List (List Int)}{S:List Int}{T:List Bool}{G:List (List Int)}{n:Nat}(hn:n<G.length)(hne:nth G n=[])(i:Int):
 (.box [.t (.sl (W.map tL)),.t (tL S),.ref 2 0 G.length]:: .arr 1 false 0 (bls T):: .arr 1 false 0 ((esT G (fun n=>3+rk G n) G.length).set n (.ref ((aT G G G.length).length+1+1+1) 0 1))::(aT G G G.length++[.arr 1 false 0 [I i]]):ab)=
 dt W S T (G.set n [i]) (fK G) (aT G (G.set n [i]) G.length++[arA (nth (G.set n [i]) n)]):=by
 have e1:=qx (G:=G) (G2:=G.set n [i]) (f:=fun n=>3+rk G n) (f2:=fK G) G.length hn (fun k hk hkn=>by
  rw[aU (fun z=>hkn z.symm)]
  exact⟨Iff.rfl,fun h=>⟨by unfold fK;rw[if_neg h],rfl⟩⟩)
 rw[bR hn,if_neg (by simp)]at e1
 have f:fK G n=(aT G G G.length).length+1+1+1:=by unfold fK;rw[if_pos hne,dW];omega
 rw[f,List.length_singleton]at e1
 have e2:aT G (G.set n [i]) G.length=aT G G G.length:=nS _ fun k hk hke=>by rw[aU (fun z=>by subst z;exact hke hne)]
 rw[bR hn,e2]
 simp only[dt,e1,List.length_set]
 rfl
theorem w4{G:List (List Int)}{n:Nat}(hn:n<G.length)(hne:nth G n≠[])(i:Int):rX G (G.set n (nth G n++[i])) []:=by
 refine⟨fun m hm=>?_,.inl ⟨rfl,fun m hm=>?_⟩⟩
 · by_cases e:m=n
   · subst e;rw[bR hn];simp
   · rw[aU (fun z=>e z.symm)];exact hm
 · have:n≠m:=fun z=>by subst z;exact hne hm
   rw[aU this];exact hm
theorem w5{G:List (List Int)}{n:Nat}(hn:n<G.length)(hne:nth G n=[])(i:Int):rX G (G.set n [i]) [arA (nth (G.set n [i]) n)]:=by
 refine⟨fun m hm=>?_,.inr ⟨n,hn,hne,by rw[bR hn];simp,rfl,fun m hm1 hm2=>?_⟩⟩
 · have:n≠m:=fun z=>by subst z;exact hm hne
   rw[aU this];exact hm
 · rw[aU (fun z=>hm1 z.symm)];exact hm2
theorem qz{T:List Bool}{n:Nat}(h:n<T.length):nth (T.set n true) n=true:=by
 unfold nth
 rw[aLl,aLj h];rfl
theorem r5{T:List Bool}{n:Nat}(h:n<T.length){m:Nat}(hm:nth T m=true):nth (T.set n true) m=true:=by
 by_cases e:n=m
 · subst e;exact qz h
 · unfold nth at hm ⊢
   rw[aLl,aLi e,←aLl];exact hm
theorem eF.mono{W:List (List Int)}{S:List Int}{G G2:List (List Int)}{i:Int}{T T2:Nat→Bool}(h:eF W S G i T2 G2)(s:∀n,T n=true→T2 n=true):eF W S G i T G2:=⟨h.gi,h.pm,fun n hn=>h.old n (s n hn),h.clo⟩
theorem ML{W:List (List Int)}{S:List Int}{G:List (List Int)}(hW:W.length≤1000)(hS:S.length≤1000)(hG:GI W S G)(hc:∀n,(nth G n).length≤1000000)(hwl:∀i,(nth W i).length≤1000000){i:Nat}(hi:i<W.length){T:List Bool}(tl:T.length=S.length)
 (ih:∀T':List Bool,T'.length=S.length→left T'<left T→∀o:Nat,o<W.length→∃r,c9 0 N.ah [.bp 0 0,I o,.ref 1 0 S.length] (bY W S T' G)=some (B r.1,r.2)∧zv W S G o T' r) (z3 z4 z5 z6 z10 z11 z12:D):
 ∃q,exS c9 K.dq ⟨[.bp 0 0,I i,.ref 1 0 S.length,z3,z4,z5,z6,.t (tL (nth W i)),I (nth W i).length,I 0,z10,z11,z12],bY W S T G⟩=some q∧
  ((∃T2:List Bool,q=(.exit 0,⟨wX i (nth W i).length S.length (nth W i).length (nth W i),bY W S T2 G⟩)∧T2.length=S.length∧lN W S G i (Tb T) (Tb T2)∧left T2≤left T)∨
   ∃(T2:List Bool) (G2:List (List Int)) (x:ab) (vs:List D),q=(.ret,⟨vs,dt W S T2 G2 (fK G) (aT G G2 G.length++x)⟩)∧vs[3]?=some (B true)∧T2.length=S.length∧rX G G2 x∧eF W S G i (Tb T) G2):=by
 have gl:=hG.len
 refine vS (fun j st=>∃T':List Bool,T'.length=S.length∧Acc W S G (Tb T) (Tb T')∧left T'≤left T∧(∀q,q<j→∀x:Nat,x<S.length→(x:Int)=nth (nth W i) q→Tb T' x=true)∧st=⟨wX i j S.length (nth W i).length (nth W i),bY W S T' G⟩) (nth W i).length _ ⟨T,tl,Acc.refl _ _ _ _,aLs _,fun q hq=>by omega,by simp only[go_sem,wX,Int.natCast_zero]⟩ ?_ ?_
 · rintro j st hj ⟨T',tl',acc,lf,ws,rfl⟩
   have wg:((nth W i).map (Ev.T.int .i64))[j]?=some (tI (nth (nth W i) j)):=ir _ hj
   have li:=R1 (nth (nth W i) j) 0 ((S.length:Int)-1)
   have wb:=hwl i
   have cl:=eK W S T' G
   by_cases cin:0≤nth (nth W i) j∧nth (nth W i) j≤(S.length:Int)-1
   · rw[decide_eq_true cin]at li
     obtain⟨n,hn⟩:=Int.eq_ofNat_of_zero_le cin.1
     rw[hn]at cin wg li
     have hnl:n<S.length:=by omega
     have hw:(n:Int)∈nth W i:=by rw[← hn];exact aLd (eW hj)
     have tg:=FH (T:=T') (n:=n) (by omega)
     have bl:=FF T'
     have bl2:n<(bls T').length:=by omega
     have ho:=kG W S T' G
     have tk:(bY W S T' G).take (3+rk G G.length)=bY W S T' G:=List.take_of_length_le (by omega)
     have k0:(bY W S T' G)[0]?=some (.box [.t (.sl (W.map tL)),.t (tL S),.ref 2 0 G.length]):=rfl
     have k1:(bY W S T' G)[1]?=some (.arr 1 false 0 (bls T')):=rfl
     have k2:(bY W S T' G)[2]?=some (.arr 1 false 0 (esT G (fun n=>3+rk G n) G.length)):=rfl
     have k33:3≤3+rk G G.length:=by omega
     have b0:ltB 0 (3+rk G G.length)=true:=by rw[cn];simp;omega
     have b1:ltB 1 (3+rk G G.length)=true:=by rw[cn];simp;omega
     cases et:nth T' n with
     | true=>
       rw[et]at tg
       left
       refine⟨⟨wX i (j+1) S.length (nth W i).length (nth W i),bY W S T' G⟩,?_,T',tl',acc,lf,fun q hq x hx hxe=>?_,rfl⟩
       · rw[cl]
         generalize bY W S T' G=K1 at*
         generalize 3+rk G G.length=kL at*
         generalize bls T'=Bs at*
         clear ih ws acc
         simp only[wX]
         simp(disch:=omega)only[go_sem,K.aj,↓reduceIte,wg,li,k0,k1,tg,ho,tk,b0,b1,reduceAdd,reduceSub]
       · by_cases e:q=j
         · subst e
           have:x=n:=by omega
           subst this;exact et
         · exact ws q (by omega) x hx hxe
     | false=>
       rw[et]at tg
       have sg:(bls T').set n (B true)=bls (T'.set n true):=FE T' n true
       have st1:(bY W S T' G).set 1 (.arr 1 false 0 (bls (T'.set n true)))=bY W S (T'.set n true) G:=rfl
       have l1:=rW (T:=T') (n:=n) (by omega) et
       have tl1:(T'.set n true).length=S.length:=by rw[List.length_set];exact tl'
       have k4:(bY W S (T'.set n true) G)[0]?=some (.box [.t (.sl (W.map tL)),.t (tL S),.ref 2 0 G.length]):=rfl
       have k5:(bY W S (T'.set n true) G)[2]?=some (.arr 1 false 0 (esT G (fun n=>3+rk G n) G.length)):=rfl
       have eg:(esT G (fun n=>3+rk G n) G.length)[n]?=some (rZ G n):=by rw[nO G _ G.length (by omega)];rfl
       have sg2:(S.map (Ev.T.int .i64))[n]?=some (tI (nth S n)):=ir _ hnl
       by_cases hf:((nth G n).length:Int)<nth S n
       · right
         have po:=(tz hG hi hnl hw hf et).mono acc.sub
         have e3:=eJ G (fun n=>3+rk G n) G.length
         have lf2:=decide_eq_true hf
         by_cases hne:nth G n=[]
         · have fs:=wZ (W:=W) (S:=S) (T:=T'.set n true) (G:=G) (n:=n) (by omega) hne i
           rw[hne]at lf2 po
           rw[List.nil_append]at po
           have gD:rZ G n= .nil:=if_pos hne
           rw[gD]at eg
           have nx:=w5 (G:=G) (n:=n) (by omega) hne (i:Int)
           have fin:∃vs,exS c9 K.aj ⟨wX i j S.length (nth W i).length (nth W i),bY W S T' G⟩=some (.ret,⟨vs,dt W S (T'.set n true) (G.set n [(i:Int)]) (fK G) (aT G (G.set n [(i:Int)]) G.length++[arA (nth (G.set n [(i:Int)]) n)])⟩)∧vs[3]?=some (B true):=by
            generalize dt W S (T'.set n true) (G.set n [(i:Int)]) (fK G) (aT G (G.set n [(i:Int)]) G.length++[arA (nth (G.set n [(i:Int)]) n)])=K3 at*
            clear ih ws acc po nx
            apply Exists.intro
            apply And.intro
            · simp(disch:=omega)only[go_sem,K.aj,↓reduceIte,wg,li,k0,k1,tg,ho,tk,b0,b1,sg,st1,k4,k5,eg,sg2,lf2,bl2,e3,reduceAdd,reduceSub]
              subst fs
              rfl
            · rfl
           obtain⟨vs,f1,f2⟩:=fin
           exact⟨_,f1,by simp,.inr ⟨T'.set n true,_,_,vs,rfl,f2,tl1,nx,po⟩⟩
         · have fs:=wY (W:=W) (S:=S) (T:=T'.set n true) (G:=G) (n:=n) (by omega) hne i
           have gD:rZ G n= .ref (3+rk G n) 0 (nth G n).length:=if_neg hne
           rw[gD]at eg
           have nx:=w4 (G:=G) (n:=n) (by omega) hne (i:Int)
           have ka:(bY W S (T'.set n true) G)[3+rk G n]?=some (arA (nth G n)):=(qw W S (T'.set n true) G).hf n (by omega) hne
           rw[show arA (nth G n++[(i:Int)])= .arr 1 false 0 (ints (nth G n)++[D.t (Ev.T.int .i64 i)])by simp[arA,ints]]at fs
           have cb:=hc n
           have sx:∀X,(bY W S (T'.set n true) G).set (3+rk G n) X= .box [.t (.sl (W.map tL)),.t (tL S),.ref 2 0 G.length]:: .arr 1 false 0 (bls (T'.set n true)):: .arr 1 false 0 (esT G (fun n=>3+rk G n) G.length)::(aT G G G.length).set (rk G n) X:=fun X=>by
            rw[show 3+rk G n=rk G n+1+1+1 by omega];rfl
           have fin:∃vs,exS c9 K.aj ⟨wX i j S.length (nth W i).length (nth W i),bY W S T' G⟩=some (.ret,⟨vs,dt W S (T'.set n true) (G.set n (nth G n++[(i:Int)])) (fK G) (aT G (G.set n (nth G n++[(i:Int)])) G.length++[])⟩)∧vs[3]?=some (B true):=by
            generalize dt W S (T'.set n true) (G.set n (nth G n++[(i:Int)])) (fK G) (aT G (G.set n (nth G n++[(i:Int)])) G.length++[])=K3 at*
            clear ih ws acc po nx
            apply Exists.intro
            apply And.intro
            · simp(disch:=omega)only[go_sem,K.aj,↓reduceIte,wg,li,k0,k1,tg,ho,tk,b0,b1,sg,st1,k4,k5,eg,sg2,lf2,bl2,e3,ka,sx,reduceAdd,reduceSub]
              subst fs
              rfl
            · rfl
           obtain⟨vs,f1,f2⟩:=fin
           exact⟨_,f1,by simp,.inr ⟨T'.set n true,_,_,vs,rfl,f2,tl1,nx,po⟩⟩
       · obtain⟨q,hq,hc2⟩:=Sq hW hS hG hc hi hnl hw et (T1:=T'.set n true) (fun m hm=>r5 (by omega) hm) (qz (by omega)) tl1 (fun T2 h2 h3=>ih T2 h2 (by omega)) j (nth W i).length .und .und .und
         have lf2:=decide_eq_false hf
         have e3:=eJ G (fun n=>3+rk G n) G.length
         have cb:=hc n
         rcases hc2 with⟨T2,rfl,tl2,acc2,lf3,ws2⟩ | ⟨T2,G2,x,vs,rfl,v3,tl2,nx,po⟩
         · left
           refine⟨⟨wX i (j+1) S.length (nth W i).length (nth W i),bY W S T2 G⟩,?_,T2,tl2,acc.trans (acc2.num (by omega) (by omega) ws2),by omega,fun q hq x hx hxe=>?_,rfl⟩
           · rw[cl]
             have ho4:=kG W S T2 G
             have tk4:(bY W S T2 G).take (3+rk G G.length)=bY W S T2 G:=List.take_of_length_le (by have:=eK W S T2 G;omega)
             generalize bY W S T2 G=K4 at*
             generalize bY W S (T'.set n true) G=K2 at*
             generalize bY W S T' G=K1 at*
             generalize 3+rk G G.length=kL at*
             generalize bls (T'.set n true)=Bs2 at*
             generalize bls T'=Bs at*
             clear ih ws acc acc2 ws2
             by_cases hne:nth G n=[]
             · have gD:rZ G n= .nil:=if_pos hne
               rw[hne]at hf hq
               have hz:¬((0:Int)<nth S n):=hf
               rw[gD]at eg hq
               rw[List.length_nil,Int.natCast_zero]at hq
               simp(disch:=omega)only[go_sem,K.aj,↓reduceIte,wg,li,k0,k1,tg,ho,tk,b0,b1,sg,st1,k4,k5,eg,sg2,hz,bl2,hq,e3,ho4,tk4,reduceAdd,reduceSub]
               rfl
             · have gD:rZ G n= .ref (3+rk G n) 0 (nth G n).length:=if_neg hne
               rw[gD]at eg hq
               simp(disch:=omega)only[go_sem,K.aj,↓reduceIte,wg,li,k0,k1,tg,ho,tk,b0,b1,sg,st1,k4,k5,eg,sg2,lf2,bl2,hq,e3,ho4,tk4,reduceAdd,reduceSub]
               rfl
           · by_cases e:q=j
             · subst e
               have:x=n:=by omega
               subst this;exact acc2.sub _ (qz (by omega))
             · exact acc2.sub _ (r5 (by omega) (ws q (by omega) x hx hxe))
         · right
           have fin:exS c9 K.aj ⟨wX i j S.length (nth W i).length (nth W i),bY W S T' G⟩=some (.ret,⟨vs,dt W S T2 G2 (fK G) (aT G G2 G.length++x)⟩):=by
            generalize dt W S T2 G2 (fK G) (aT G G2 G.length++x)=K4 at*
            generalize bY W S (T'.set n true) G=K2 at*
            generalize bY W S T' G=K1 at*
            generalize 3+rk G G.length=kL at*
            generalize bls (T'.set n true)=Bs2 at*
            generalize bls T'=Bs at*
            clear ih ws acc po nx
            by_cases hne:nth G n=[]
            · have gD:rZ G n= .nil:=if_pos hne
              rw[hne]at hf hq
              have hz:¬((0:Int)<nth S n):=hf
              rw[gD]at eg hq
              rw[List.length_nil,Int.natCast_zero]at hq
              simp(disch:=omega)only[go_sem,K.aj,↓reduceIte,wg,li,k0,k1,tg,ho,tk,b0,b1,sg,st1,k4,k5,eg,sg2,hz,bl2,hq,e3,reduceAdd,reduceSub]
            · have gD:rZ G n= .ref (3+rk G n) 0 (nth G n).length:=if_neg hne
              rw[gD]at eg hq
              simp(disch:=omega)only[go_sem,K.aj,↓reduceIte,wg,li,k0,k1,tg,ho,tk,b0,b1,sg,st1,k4,k5,eg,sg2,lf2,bl2,hq,e3,reduceAdd,reduceSub]
           exact⟨_,fin,by simp,.inr ⟨T2,G2,x,vs,rfl,v3,tl2,nx,po.mono acc.sub⟩⟩
   · rw[decide_eq_false cin]at li
     left
     refine⟨⟨wX i (j+1) S.length (nth W i).length (nth W i),bY W S T' G⟩,?_,T',tl',acc,lf,fun q hq x hx hxe=>?_,rfl⟩
     · have ho:=kG W S T' G
       have tk:(bY W S T' G).take (3+rk G G.length)=bY W S T' G:=List.take_of_length_le (by omega)
       have k0:(bY W S T' G)[0]?=some (.box [.t (.sl (W.map tL)),.t (tL S),.ref 2 0 G.length]):=rfl
       rw[cl]
       generalize bY W S T' G=K1 at*
       have k3:3≤3+rk G G.length:=by omega
       generalize 3+rk G G.length=kL at*
       have b0:ltB 0 kL=true:=by rw[cn];simp;omega
       have b1:ltB 1 kL=true:=by rw[cn];simp;omega
       clear ih ws acc
       simp(disch:=omega)only[go_sem,K.aj,↓reduceIte,wg,li,k0,ho,tk,b0,b1,reduceAdd,reduceSub]
       rfl
     · by_cases e:q=j
       · subst e;exact absurd ⟨by omega,by omega⟩ cin
       · exact ws q (by omega) x hx hxe
 · rintro st ⟨T',tl',acc,lf,ws,rfl⟩
   refine⟨(.exit 0,⟨wX i (nth W i).length S.length (nth W i).length (nth W i),bY W S T' G⟩),?_,by simp,.inl ⟨T',rfl,tl',⟨acc.sub,acc.clo,fun x hx hw=>?_⟩,lf⟩⟩
   · generalize bY W S T' G=K1
     simp(disch:=omega)only[go_sem,K.aj,↓reduceIte,reduceAdd,reduceSub]
   · rw[Int.toNat_natCast]at hw
     obtain⟨q,hq⟩:=aLf.1 hw
     have ql:=(aLe.1 hq).1
     exact ws q ql x hx (by have:=eW ql;rw[hq]at this;exact(Option.some.inj this))
theorem zx{W:List (List Int)}{S:List Int}{G:List (List Int)}(hW:W.length≤1000)(hS:S.length≤1000)(hG:GI W S G)(hc:∀n,(nth G n).length≤1000000)(hwl:∀i,(nth W i).length≤1000000):∀(k:Nat) (T:List Bool),left T≤k→T.length=S.length→∀i:Nat,i<W.length→
 ∃r,c9 0 N.ah [.bp 0 0,I i,.ref 1 0 S.length] (bY W S T G)=some (B r.1,r.2)∧zv W S G i T r:=by
 intro k
 induction k using Nat.strongRecOn with
 | ind k IH=>
   intro T hk tl i hi
   obtain⟨q,hq,hc2⟩:=ML hW hS hG hc hwl hi tl (fun T2 h2 h3 o ho=>IH (left T2) (by omega) T2 (aLs _) h2 o ho) (B false) .und .und .und .und .und .und
   have k0:(bY W S T G)[0]?=some (.box [.t (.sl (W.map tL)),.t (tL S),.ref 2 0 G.length]):=rfl
   have wg:(W.map tL)[i]?=some (tL (nth W i)):=by
    unfold nth
    rw[aLn,aLc hi,aLl,aLc hi];rfl
   have cl:=eK W S T G
   have wb:=hwl i
   rcases hc2 with⟨T2,rfl,tl2,pn,lf⟩ | ⟨T2,G2,x,vs,rfl,v3,tl2,nx,po⟩
   · refine⟨(false,bY W S T2 G),dw K.bH rfl ?_,.inr ⟨T2,rfl,pn,by omega,lf⟩⟩
     have fn:=MJ (W:=W) (S:=S) (T:=T2) (G:=G)
     rw[cl]
     generalize bY W S T2 G=K2 at*
     generalize bY W S T G=K1 at*
     generalize 3+rk G G.length=kL at*
     clear IH
     simp(disch:=omega)only[go_sem,K.ah,↓reduceIte,k0,wg,hq,fn,reduceAdd,reduceSub]
   · refine⟨(true,dt W S T2 G2 (fK G) (aT G G2 G.length++x)),dw K.bH rfl ?_,.inl ⟨G2,T2,x,rfl,po,nx,by omega⟩⟩
     have fn:=MK (W:=W) (S:=S) (T:=T2) (G:=G) (G2:=G2) (x:=x) (by have:=po.gi.len;have:=hG.len;omega) nx
     rw[cl]
     generalize dt W S T2 G2 (fK G) (aT G G2 G.length++x)=K2 at*
     generalize bY W S T G=K1 at*
     generalize 3+rk G G.length=kL at*
     clear IH
     simp(disch:=omega)only[go_sem,K.ah,↓reduceIte,k0,wg,hq,fn,v3,reduceAdd,reduceSub]
theorem Bo{α:Type}:∀ {sel:List Nat} {l os:List α},(ay l sel os).length=l.length
 | [],l,os=>by simp[ay]
 | a::sel,l,[]=>by simp[ay]
 | a::sel,l,o::os=>by rw[ay,Bo];simp
theorem Bp{α:Type}:∀ {sel:List Nat} {l os:List α} {i:Nat},i∉sel→(ay l sel os)[i]?=l[i]?
 | [],l,os,i,_=>by simp[ay]
 | a::sel,l,[],i,_=>by simp[ay]
 | a::sel,l,o::os,i,h=>by
   simp only[List.mem_cons,not_or]at h
   rw[ay,Bp h.2,aLi (fun e=>h.1 e.symm)]
theorem MM{α:Type}:∀ {sel:List Nat} {l os:List α} {i j:Nat},sel.Nodup→os.length=sel.length→sel[j]?=some i→i<l.length→(ay l sel os)[i]?=os[j]?
 | [],l,os,i,j,_,_,h,_=>by simp at h
 | a::sel,l,[],i,j,_,hl,_,_=>by simp at hl
 | a::sel,l,o::os,i,j,hn,hl,hj,hi=>by
   simp only[List.nodup_cons]at hn
   rw[ay]
   cases j with
   | zero=>
     simp at hj;subst hj
     rw[Bp hn.1,aLj hi];rfl
   | succ j=>
     simp at hj hl
     rw[MM hn.2 hl hj (by simpa using hi)];rfl
structure FI(K:ab)(b g:Nat)(f:Nat→Nat)(W:List (List Int))(S:List Int)(G:List (List Int)):Prop where
 hb:K[b]?=some (.box [.t (.sl (W.map tL)),.t (tL S),.ref g 0 G.length])
 hg:K[g]?=some (.arr 1 false 0 (esT G f G.length))
 hf:∀n,n<G.length→nth G n≠[]→K[f n]?=some (arA (nth G n))
 bg:b≠g
 inj:∀n m,n<G.length→m<G.length→nth G n≠[]→nth G m≠[]→f n=f m→n=m
 fb:∀n,n<G.length→nth G n≠[]→f n≠b∧f n≠g
theorem qA{α:Type}{K:List α}{i:Nat}{o:α}(h:K[i]?=some o):i<K.length:=(aLe.1 h).1
theorem Bq{G:List (List Int)}{f:Nat→Nat}:∀m,(∀n k,n<m→k<m→nth G n≠[]→nth G k≠[]→f n=f k→n=k)→(idT G f m).Nodup
 | 0,_=>by simp[idT]
 | m+1,h=>by
   rw[idT]
   refine List.nodup_append.2 ⟨Bq m fun n k hn hk=>h n k (by omega) (by omega),by split<;>simp,fun a ha c hc=>?_⟩
   split at hc
   · simp at hc
   · rename_i hm
     rw[List.mem_singleton.1 hc]
     obtain⟨n,hn,hne,rfl⟩:=jT.1 ha
     intro e
     have:=h n m (by omega) (by omega) hne hm e
     omega
theorem qB{K:ab}{i:Nat}{o:Obj}(h:K[i]?=some o)(x:ab):(K++x)[i]?=some o:=by
 rw[aLg (qA h)];exact h
theorem MN{l:List Nat}(h:l.Nodup){i j a:Nat}(hi:l[i]?=some a)(hj:l[j]?=some a):i=j:=by
 have li:=qA hi
 have lj:=qA hj
 rw[aLc li]at hi
 rw[aLc lj]at hj
 have e:=Option.some.inj (hi.trans hj.symm)
 rcases Nat.lt_trichotomy i j with k | k | k
 · exact absurd e (List.pairwise_iff_getElem.1 h i j li lj k)
 · exact k
 · exact absurd e.symm (List.pairwise_iff_getElem.1 h j i lj li k)
theorem FI.rep{K:ab}{b g:Nat}{f:Nat→Nat}{W:List (List Int)}{S:List Int}{G:List (List Int)}(h:FI K b g f W S G)(T:List Bool):pz (K++[.arr 1 false 0 (bls T)]) b K.length g f W S T G where
 hb:=qB h.hb _
 hq:=by rw[aLh (aLs _),Nat.sub_self];rfl
 hg:=qB h.hg _
 hf n hn hne:=qB (h.hf n hn hne) _
 nd:=by
  have lb:=qA h.hb
  have lg:=qA h.hg
  have bg:=h.bg
  have nf:∀x,(∀n,n<G.length→nth G n≠[]→f n≠x)→x∉idT G f G.length:=fun x hx hm=>by
   obtain⟨n,a,c,e⟩:=jT.1 hm
   exact hx n a c e.symm
  have n1:=nf b fun n hn hne=>(h.fb n hn hne).1
  have n2:=nf g fun n hn hne=>(h.fb n hn hne).2
  have n3:=nf K.length fun n hn hne e=>by
   have:=qA (h.hf n hn hne)
   omega
  have nd:=Bq G.length h.inj
  simp only[List.cons_append,List.nil_append,List.nodup_cons,List.mem_cons,not_or]
  exact⟨⟨by omega,bg,n1⟩,⟨by omega,n3⟩,n2,nd⟩
def f2K(K:ab)(G:List (List Int))(f:Nat→Nat)(n:Nat):Nat:=if nth G n=[]then K.length else f n
theorem w6(b q g:Nat)(G:List (List Int))(f:Nat→Nat):([b,q,g]++idT G f G.length).length=3+rk G G.length:=by
 rw[aLv,jR];rfl
theorem pb{K:ab}{b q g:Nat}{f:Nat→Nat}{W:List (List Int)}{S:List Int}{T T2:List Bool}{G G2:List (List Int)}{x:ab}(h:pz K b q g f W S T G)(gl:G2.length=G.length)(hx:rX G G2 x)(r:Bool):
 eT K K ([b,q,g]++idT G f G.length) (B r,dt W S T2 G2 (fK G) (aT G G2 G.length++x))=some (B r,ay K ([b,q,g]++idT G f G.length) ([.box [.t (.sl (W.map tL)),.t (tL S),.ref g 0 G2.length],.arr 1 false 0 (bls T2),.arr 1 false 0 (esT G2 (f2K K G f) G2.length)]++aT G G2 G.length)++x):=by
 have sl:=w6 b q g G f
 generalize hsel:[b,q,g]++idT G f G.length=sel at*
 have bk:∀i,i<3+rk G G.length→aJ sel K.length i=sel[i]?:=fun i hi=>by unfold aJ;rw[if_pos (by omega)]
 have bn:aJ sel K.length (3+rk G G.length)=some K.length:=by unfold aJ;rw[if_neg (by omega),sl];simp
 have s2:aJ sel K.length 2=some g:=by rw[bk 2 (by omega),←hsel];rfl
 have e:eT K K sel (B r,dt W S T2 G2 (fK G) (aT G G2 G.length++x))=(ren (aJ sel K.length) depth (B r)).bind fun r'=>(az (aN (aJ sel K.length)) (dt W S T2 G2 (fK G) (aT G G2 G.length++x))).map fun os=>(r',ay K sel (os.take sel.length)++os.drop sel.length):=by
  unfold eT
  have:sel.isEmpty=false:=by
   rw[← hsel];rfl
  simp only[this,Bool.false_and,aLt,if_false]
  rfl
 have fk:∀n,n<G.length→nth G2 n≠[]→aJ sel K.length (fK G n)=some (f2K K G f n):=fun n hn hne=>by
  unfold fK f2K
  by_cases c:nth G n=[]
  · rw[if_pos c,if_pos c];exact bn
  · rw[if_neg c,if_neg c]
    have:=lT G (n:=n) (m:=G.length) hn c
    rw[bk _ (by omega),←hsel]
    exact h.qv hn c
 have e1:az (ren (aJ sel K.length) 8) (esT G2 (fK G) G2.length)=some (esT G2 (f2K K G f) G2.length):=lU (u:=aJ sel K.length) (f2:=f2K K G f) G2.length (fun n hn hne=>fk n (by omega) hne)
 have e2:az (ren (aJ sel K.length) 8) (bls T2)=some (bls T2):=fx _ _
 have e3:az (aN (aJ sel K.length)) (aT G G2 G.length++x)=some (aT G G2 G.length++x):=by
  refine nJ fun o ho=>?_
  obtain⟨l,rfl⟩:=rY hx o ho
  simp only[aN,ints,fx,aLw]
 have e4:az (aN (aJ sel K.length)) (dt W S T2 G2 (fK G) (aT G G2 G.length++x))=some (.box [.t (.sl (W.map tL)),.t (tL S),.ref g 0 G2.length]:: .arr 1 false 0 (bls T2):: .arr 1 false 0 (esT G2 (f2K K G f) G2.length)::(aT G G2 G.length++x)):=by
  simp only[dt,az,aN,ren,depth,s2,aLw,aLq]
  rw[e1,e2,e3];rfl
 rw[e,e4]
 simp only[ren,depth,aLq,aLw,sl]
 have al:=dW G G2 G.length
 have t1:∀(A B C:Obj),(A::B::C::(aT G G2 G.length++x)).take (3+rk G G.length)=[A,B,C]++aT G G2 G.length:=fun A B C=>by
  rw[show A::B::C::(aT G G2 G.length++x)=([A,B,C]++aT G G2 G.length)++x by simp]
  rw[List.take_left' (by rw[aLv,al];rfl)]
 have t2:∀(A B C:Obj),(A::B::C::(aT G G2 G.length++x)).drop (3+rk G G.length)=x:=fun A B C=>by
  rw[show A::B::C::(aT G G2 G.length++x)=([A,B,C]++aT G G2 G.length)++x by simp]
  rw[List.drop_left' (by rw[aLv,al];rfl)]
 rw[t1,t2]
theorem lV{K:ab}{b q g:Nat}{f:Nat→Nat}{W:List (List Int)}{S:List Int}{T T2:List Bool}{G G2:List (List Int)}{x:ab}(h:pz K b q g f W S T G)(gl:G2.length=G.length)(hx:rX G G2 x):
 FI (ay K ([b,q,g]++idT G f G.length) ([.box [.t (.sl (W.map tL)),.t (tL S),.ref g 0 G2.length],.arr 1 false 0 (bls T2),.arr 1 false 0 (esT G2 (f2K K G f) G2.length)]++aT G G2 G.length)++x) b g (f2K K G f) W S G2:=by
 have nd:=h.nd
 have al:=dW G G2 G.length
 have sl:=w6 b q g G f
 have il:=jR G f G.length
 have pl:∀os,(ay K ([b,q,g]++idT G f G.length) os).length=K.length:=fun os=>Bo
 have nf:∀n,n<G.length→nth G n≠[]→f n≠b∧f n≠g:=fun n hn hne=>by
  have m:f n∈idT G f G.length:=jT.2 ⟨n,hn,hne,rfl⟩
  have:=(List.nodup_append.1 nd).2.2
  exact⟨fun e=>this b (by simp) (f n) m e.symm,fun e=>this g (by simp) (f n) m e.symm⟩
 have inj:∀n m,n<G.length→m<G.length→nth G n≠[]→nth G m≠[]→f n=f m→n=m:=fun n m hn hm h1 h2 e=>by
  have n2:=(List.nodup_append.1 nd).2.1
  have a:=nN G f h1 _ hn
  have c:=nN G f h2 _ hm
  rw[e]at a
  have:rk G n=rk G m:=by
   have la:=qA a
   have lc:=qA c
   exact MN n2 a c
  rcases Nat.lt_trichotomy n m with k | k | k
  · have:=lT G k h1;omega
  · exact k
  · have:=lT G k h2;omega
 have ol:∀A B C:Obj,([A,B,C]++aT G G2 G.length).length=([b,q,g]++idT G f G.length).length:=fun A B C=>by
  rw[sl,aLv,al];rfl
 have at_:∀(A B C:Obj) (j i:Nat) (o:Obj),([b,q,g]++idT G f G.length)[j]?=some i→i<K.length→([A,B,C]++aT G G2 G.length)[j]?=some o→(ay K ([b,q,g]++idT G f G.length) ([A,B,C]++aT G G2 G.length)++x)[i]?=some o:=fun A B C j i o hj hi ho=>by
  rw[aLg (by rw[pl];exact hi),MM nd (ol A B C) hj hi];exact ho
 refine⟨at_ _ _ _ 0 b _ rfl (qA h.hb) rfl,at_ _ _ _ 2 g _ rfl (qA h.hg) rfl,fun n hn hne=>?_,?_,fun n m hn hm h1 h2 e=>?_,fun n hn hne=>?_⟩
 · unfold f2K
   by_cases c:nth G n=[]
   · rw[if_pos c,aLh (by rw[pl];exact aLs _),pl,Nat.sub_self]
     rcases hx.new with⟨_,e⟩ | ⟨n0,_,_,_,e,k⟩
     · exact absurd (e n c) hne
     · by_cases d:n=n0
       · subst d;rw[e];rfl
       · exact absurd (k n d c) hne
   · rw[if_neg c]
     refine at_ _ _ _ (3+rk G n) (f n) _ (h.qv (by omega) c) (qA (h.hf n (by omega) c)) ?_
     rw[aLh (by simp),show 3+rk G n-[_,_,_].length=rk G n by simp]
     exact rU G G2 c _ (by omega)
 · intro e
   have:([b,q,g]:List Nat).Nodup:=(List.nodup_append.1 nd).1
   simp at this
   omega
 · unfold f2K at e
   have one:∀n,n<G2.length→nth G2 n≠[]→nth G n=[]→∀m,m<G2.length→nth G2 m≠[]→nth G m=[]→n=m:=fun n hn hne hne2 m hm hme hme2=>by
    rcases hx.new with⟨_,e⟩ | ⟨n0,_,_,_,e,k⟩
    · exact absurd (e n hne2) hne
    · have a:n=n0:=Classical.byContradiction fun d=>hne (k n d hne2)
      have c:m=n0:=Classical.byContradiction fun d=>hme (k m d hme2)
      omega
   by_cases c:nth G n=[]<;>by_cases d:nth G m=[]
   · exact one n hn h1 c m hm h2 d
   · rw[if_pos c,if_neg d]at e
     have:=qA (h.hf m (by omega) d);omega
   · rw[if_neg c,if_pos d]at e
     have:=qA (h.hf n (by omega) c);omega
   · rw[if_neg c,if_neg d]at e
     exact inj n m (by omega) (by omega) c d e
 · unfold f2K
   by_cases c:nth G n=[]
   · rw[if_pos c]
     have:=qA h.hb
     have:=qA h.hg
     omega
   · rw[if_neg c];exact nf n (by omega) c
theorem rX.refl(G:List (List Int)):rX G G []:=⟨fun _ h=>h,.inl ⟨rfl,fun _ h=>h⟩⟩
theorem zy(n:Nat):left (List.replicate n false)=n:=by simp[left]
theorem w7{K:ab}{b g:Nat}{f:Nat→Nat}{W:List (List Int)}{S:List Int}{G:List (List Int)}(h:FI K b g f W S G)(hW:W.length≤1000)(hS:S.length≤1000)(hsl:∀n,nth S n≤1000000)(hwl:∀i,(nth W i).length≤1000000){i c:Nat}(hi:i<W.length){U:Nat→Prop}(mi:MI W S G i c U):
 ∃r K2 f2 G2 U2,vu (K++[.arr 1 false 0 (bls (List.replicate S.length false))]) c9 N.ah 0 [2] [.bp b 0,I i,.ref K.length 0 S.length]=some (B r,K2)∧FI K2 b g f2 W S G2∧MI W S G2 (i+1) (if r then c+1 else c) U2:=by
 have hG:=mi.st.toGI
 have hc:∀n,(nth G n).length≤1000000:=fun n=>by
  by_cases e:nth G n=[]
  · rw[e];simp
  · by_cases l:n<S.length
    · have:=hG.cap n l e
      have:=hsl n
      omega
    · have:nth G n=[]:=by
       unfold nth
       rw[aLl,aLm (by have:=hG.len;omega)];rfl
      exact absurd this e
 have rt:=h.rep (List.replicate S.length false)
 obtain⟨r,hr,dn⟩:=zx hW hS hG hc hwl S.length (List.replicate S.length false) (by rw[zy];exact aLs _) (by simp) i hi
 have t0:∀n,Tb (List.replicate S.length false) n=false:=fun n=>by
  show nth _ _=_
  unfold nth
  rw[aLl,List.getElem?_replicate]
  split<;>rfl
 rcases dn with⟨G2,T2,x,rfl,po,nx,_⟩ | ⟨T2,rfl,pn,_,_⟩
 · refine⟨true,_,_,G2,U,?_,lV (T2:=T2) rt (by rw[po.gi.len,hG.len]) nx,mi.ok po⟩
   rw[rt.call i S.length,hr,aLq]
   exact pb (T2:=T2) rt (by rw[po.gi.len,hG.len]) nx true
 · refine⟨false,_,_,G,fun n=>U n∨Tb T2 n=true,?_,lV (T2:=T2) rt rfl (rX.refl G),mi.no t0 pn⟩
   rw[rt.call i S.length,hr,aLq]
   have:=pb (T2:=T2) rt rfl (rX.refl G) false
   rw[← this]
   have e1:esT G (fun n=>3+rk G n) G.length=esT G (fK G) G.length:=jm _ fun n hn=>⟨Iff.rfl,fun hne=>⟨by unfold fK;rw[if_neg hne],rfl⟩⟩
   simp only[bY,dt,e1,List.append_nil]
theorem kH(n m:Nat):nth (List.replicate n ([]:List Int)) m=[]:=by
 unfold nth
 rw[aLl,List.getElem?_replicate]
 split<;>rfl
theorem r6(n:Nat)(f:Nat→Nat):∀m,esT (List.replicate n []) f m=List.replicate m .nil
 | 0=>rfl
 | m+1=>by
   rw[esT,r6 n f m,kH,if_pos rfl,List.replicate_succ']
theorem w8(W:List (List Int))(S:List Int):FI [.arr 1 false 0 (List.replicate S.length .nil),.box [.t (.sl (W.map tL)),.t (tL S),.ref 0 0 S.length]] 1 0 (fun _=>0) W S (List.replicate S.length []) where
 hb:=by rw[List.length_replicate];rfl
 hg:=by rw[r6,List.length_replicate];rfl
 hf n hn hne:=absurd (kH _ _) hne
 bg:=by omega
 inj n m _ _ hne:=absurd (kH _ _) hne
 fb n _ hne:=absurd (kH _ _) hne
theorem w9{W:List (List Int)}{S:List Int}(hW:W.length≤1000)(hS:S.length≤1000)(hsl:∀n,nth S n≤1000000)(hwl:∀i,(nth W i).length≤1000000):
 ∃c:Nat,c9 0 N.aI [.t (.sl (W.map tL)),.t (tL S)] []=some (I c,[])∧eU W S c∧c≤W.length:=by
 have loop:∃q,exS c9 K.gV ⟨[.t (.sl (W.map tL)),.t (tL S),I 0,.bp 1 0,I 0,.und,I W.length,I 0],[.arr 1 false 0 (List.replicate S.length .nil),.box [.t (.sl (W.map tL)),.t (tL S),.ref 0 0 S.length]]⟩=some q∧
  ∃(c:Nat) (J:ab),q=(.exit 0,⟨[.und,.t (tL S),.und,.bp 1 0,I c,.und,I W.length,I W.length],J⟩)∧eU W S c∧c≤W.length:=by
  refine vS (fun j st=>∃(c:Nat) (J:ab) (f:Nat→Nat) (G:List (List Int)) (U:Nat→Prop),FI J 1 0 f W S G∧MI W S G j c U∧c≤j∧st=⟨[.und,.t (tL S),.und,.bp 1 0,I c,.und,I W.length,I j],J⟩) W.length _ ⟨0,_,_,_,_,w8 W S,MI.zero W S,aLs _,by simp only[go_sem,Int.natCast_zero]⟩ ?_ ?_
  · rintro j st hj ⟨c,J,f,G,U,rg,mi,cj,rfl⟩
    left
    obtain⟨r,J2,f2,G2,U2,oc,rg2,mi2⟩:=w7 rg hW hS hsl hwl hj mi
    refine⟨⟨[.und,.t (tL S),.und,.bp 1 0,I ((if r then c+1 else c:Nat):Int),.und,I W.length,I (j+1:Nat)],J2⟩,?_,_,J2,f2,G2,U2,rg2,mi2,by split<;>omega,rfl⟩
    rw[show bls (List.replicate S.length false)=List.replicate S.length (.t (.bool false))by simp[bls]]at oc
    have k0:=rg.hb
    clear rg rg2 mi mi2
    generalize W.length=wl at*
    cases r with
    | true=>
      simp(disch:=omega)only[go_sem,K.cP,↓reduceIte,oc,reduceAdd,reduceSub]
    | false=>
      simp(disch:=omega)only[go_sem,K.cP,↓reduceIte,oc,reduceAdd,reduceSub]
  · rintro st ⟨c,J,f,G,U,rg,mi,cj,rfl⟩
    refine⟨(.exit 0,⟨[.und,.t (tL S),.und,.bp 1 0,I c,.und,I W.length,I W.length],J⟩),?_,by simp,c,J,rfl,mi.O2,cj⟩
    generalize W.length=wl at*
    simp(disch:=omega)only[go_sem,K.cP,↓reduceIte,reduceAdd,reduceSub]
 obtain⟨q,hq,c,J,rfl,mo,cw⟩:=loop
 refine⟨c,dw K.fA rfl ?_,mo,cw⟩
 clear mo
 simp(disch:=omega)only[go_sem,K.aI,↓reduceIte,hq,reduceAdd,reduceSub]
end Go.Ev
namespace Go.Ev
open Go
variable [Lib] [aM] [aO] [bM] [bP]
theorem xa{H H':ab}:∀(k:Nat) (d:D),(∀i∈bf H k d,∃sz pin pin' ep es,H[i]?=some (.arr sz pin ep es)∧H'[i]?=some (.arr sz pin' ep es))→frz H' k d=frz H k d∧bf H' k d=bf H k d:=by
 intro k
 induction k with
 | zero=>intro d _;cases d<;>exact⟨rfl,rfl⟩
 | succ k ih=>
   intro d h
   have list:∀es:List D,(∀i∈es.flatMap (bf H k),∃sz pin pin' ep es,H[i]?=some (.arr sz pin ep es)∧H'[i]?=some (.arr sz pin' ep es))→az (frz H' k) es=az (frz H k) es∧es.flatMap (bf H' k)=es.flatMap (bf H k):=by
    intro es
    induction es with
    | nil=>intro _;exact⟨rfl,rfl⟩
    | cons e es ihl=>
      intro he
      obtain⟨a1,a2⟩:=ih e fun i hi=>he i (by simp[hi])
      obtain⟨b1,b2⟩:=ihl fun i hi=>he i (by rw[List.flatMap_cons];exact List.mem_append_right _ hi)
      exact⟨by simp only[az,a1,b1],by simp only[List.flatMap_cons,a2,b2]⟩
   cases d with
   | agg cs=>
     simp only[bf]at h
     obtain⟨a1,a2⟩:=list cs h
     exact⟨by simp only[frz,a1],by simp only[bf,a2]⟩
   | ref id ep n=>
     obtain⟨sz,pin,pin',ep',es,e1,e2⟩:=h id (by simp[bf])
     have:∀i∈es.flatMap (bf H k),∃sz pin pin' ep es,H[i]?=some (.arr sz pin ep es)∧H'[i]?=some (.arr sz pin' ep es):=fun i hi=>h i (by simp only[bf,e1];exact List.mem_cons_of_mem _ hi)
     obtain⟨a1,a2⟩:=list es this
     refine⟨?_,by simp only[bf,e1,e2,a2]⟩
     simp only[frz,bE,e1,e2]
     by_cases c:ep=ep'∧n=es.length
     · simp only[if_pos c,aLq,a1]
     · simp only[if_neg c,Option.bind_none]
   | sub id ep n lo hi=>
     obtain⟨sz,pin,pin',ep',es,e1,e2⟩:=h id (by simp[bf])
     have:∀i∈es.flatMap (bf H k),∃sz pin pin' ep es,H[i]?=some (.arr sz pin ep es)∧H'[i]?=some (.arr sz pin' ep es):=fun i hi=>h i (by simp only[bf,e1];exact List.mem_cons_of_mem _ hi)
     obtain⟨a1,a2⟩:=list es this
     have:∀i∈((es.drop lo).take (hi-lo)).flatMap (bf H k),∃sz pin pin' ep es,H[i]?=some (.arr sz pin ep es)∧H'[i]?=some (.arr sz pin' ep es):=fun i hi=>by
      obtain⟨e,he,hi⟩:=List.mem_flatMap.1 hi
      exact this i (List.mem_flatMap.2 ⟨e,List.mem_of_mem_drop (List.mem_of_mem_take he),hi⟩)
     obtain⟨b1,b2⟩:=list _ this
     refine⟨?_,by simp only[bf,e1,e2,a2]⟩
     simp only[frz,bE,e1,e2]
     by_cases c:ep=ep'∧n=es.length
     · simp only[if_pos c,aLq,b1]
     · simp only[if_neg c,Option.bind_none]
   | _=>exact⟨rfl,rfl⟩
section
variable {bm : bT} (hm : bm.ok) {t : Int} (i : Nat) {H : ab} {io iB iO n a fbi tl : Nat} {es : List D} {whr : List Wh} (e1 : H[iO]? = some (.box [.ref io 0 n])) (e2 : H[io]? = some (.arr 2 false 0 es)) (e3 : es.length = n)
 (e4:es[i]?=some (.agg [.ref a 0 tl,.ref fbi 0 whr.length])) (e5:H[fbi]?=some (.arr 2 false 0 (whs whr))) (e6:H[iB]?=some (.box (oZ bm))) (hi:i<n) (hn:n≤1000000) (hl:whr.length≤1000000)
include hm e1 e2 e3 e4 e5 e6 hi hn hl
end
theorem Rp.app{H:ab}{id:Nat}{es:List D}{fa fb:Nat→Nat}{out:List World}(hr:Rp H id es fa fb out)(t:ab):Rp (H++t) id es fa fb out:=
 ⟨by rw[kh (nL hr.arr)];exact hr.arr,hr.len,hr.el,fun j hj=>by rw[kh (nL (hr.ha j hj))];exact hr.ha j hj,fun j hj=>by rw[kh (nL (hr.hb j hj))];exact hr.hb j hj,hr.na,hr.nb,hr.nab,hr.nbb⟩
structure SlH(H:ab)(b:List World)(bm:bT)(iB iO io:Nat)(es:List D)(fa fb:Nat→Nat)(A:List Nat)(O:List World):Prop where
 h1:H[1]?=some (.box [.ref 3 0 b.length])
 h2:H[2]?=some (.box [.nil])
 hB:H[iB]?=some (.box (oZ bm))
 hO:H[iO]?=some (.box [.ref io 0 O.length])
 rp:Rp H io es fa fb O
 ar:∀i∈A,∃sz pin ep es,H[i]?=some (.arr sz pin ep es)
 nA:∀i∈A,∀j,j<O.length→i≠fb j
 eA:bf H 7 (.ref 3 0 b.length)=A
 fr:frz H 7 (.ref 3 0 b.length)=some (.sl (b.map World.e))
theorem SlH.step{H:ab}{b:List World}{bm:bT}{iB iO io:Nat}{es:List D}{fa fb:Nat→Nat}{A:List Nat}{O:List World}(h:SlH H b bm iB iO io es fa fb A O){i:Nat}(hi:i<O.length)(x:World)(ht:(nth O i).tags=x.tags)
 (hw:x.whr.length=(nth O i).whr.length) (o:Obj):SlH (H.set (fb i) (.arr 2 false 0 (whs x.whr))++[o]) b bm iB iO io es fa fb A (O.set i x):=by
 have hb:=h.rp.hb i hi
 have nb:∀ {k:Nat} {cs:List D},H[k]?=some (.box cs)→(H.set (fb i) (.arr 2 false 0 (whs x.whr))++[o])[k]?=some (.box cs):=fun{k cs} hk=>by
  have ne:fb i≠k:=fun e=>by rw[e,hk]at hb;cases hb
  rw[kh (by rw[List.length_set];exact nL hk),fY ne];exact hk
 have na:∀k∈A,(H.set (fb i) (.arr 2 false 0 (whs x.whr))++[o])[k]?=H[k]?:=fun k hk=>by
  obtain⟨sz,pin,ep,es',e⟩:=h.ar k hk
  rw[kh (by rw[List.length_set];exact nL e),fY (fun e=>h.nA k hk i hi e.symm)]
 have fc:=xa (H:=H) (H':=H.set (fb i) (.arr 2 false 0 (whs x.whr))++[o]) 7 (.ref 3 0 b.length) (fun k hk=>by
  rw[h.eA]at hk
  obtain⟨sz,pin,ep,es',e⟩:=h.ar k hk
  exact⟨sz,pin,pin,ep,es',e,by rw[na k hk];exact e⟩)
 refine⟨nb h.h1,nb h.h2,nb h.hB,by rw[List.length_set];exact nb h.hO,(h.rp.merge hi x ht hw).app _,fun k hk=>?_,by rw[List.length_set];exact h.nA,by rw[fc.2];exact h.eA,by rw[fc.1];exact h.fr⟩
 obtain⟨sz,pin,ep,es',e⟩:=h.ar k hk
 exact⟨sz,pin,ep,es',by rw[na k hk];exact e⟩
end Go.Ev
namespace Go.Ev
open Go
variable [Lib] [aM] [aO] [bM] [bP]
section
variable (x : s4) (s : LP) (k : Keys) (b : Bel) (hx : x.area.length ≤ 1000000) (hk : k.roads.length ≤ 1000000) (hk2 : k.keys.length ≤ 1000000) (hb : b.sz)
include hx hk hk2 hb
end
end Go.Ev
namespace Go.Ev
open Go
variable [Lib] [aM] [aO] [bM] [bP]
section
variable (d d1 d2 d3 d4 d5 : au) (p a3 : Bool) (st fi se ti now ar ag f1 f2 a1 a2 a4 : Int) (n : Nat) (b : Int) (h0 : 0 ≤ now) (h1 : now ≤ b) (hb : b ≤ 100000) (e5 : d5.dS) (l2 : 0 ≤ a2) (m1 : 0 ≤ a1 ∧ a1 ≤ 301) (l4 : 0 ≤ a4) (h4 : a4 < 3) (hn : n ≤ 30)
 (o1:c9 0 N.aY [.bp 0 0,.t (.sl [.int .i64 0,.int .i64 10,.int .i64 200,.int .i64 301])] [d.obj]=some (I a1,[d1.obj])) (o2:c9 0 N.av [.bp 0 0,I 6] [d1.obj]=some (I a2,[d2.obj]))
 (o3:c9 0 N.nG [.bp 0 0,I 6] [d2.obj]=some (B a3,[d3.obj])) (o4:c9 0 N.av [.bp 0 0,I 3] [d3.obj]=some (I a4,[d4.obj]))
include h0 h1 hb e5 l2 m1 l4 h4 hn o1 o2 o3 o4
end
end Go.Ev
namespace Go.Ev
open Go
variable [Lib] [aM] [aO] [bM]
end Go.Ev
namespace Go.Ev
open Go
variable [Lib] [aM] [aO] [bM] [bP]
def au.eL(d:au):Nat→List Int×au
 | 0=>([],d)
 | j+1=>((d.eL j).1++[((d.eL j).2.next 9).1-1],((d.eL j).2.next 9).2)
theorem au.jn(d:au):∀j,(d.eL j).1.length=j
 | 0=>rfl
 | j+1=>by simp only[au.eL,aLv,List.length_singleton,au.jn d j]
theorem au.iy{d:au}(h:d.dS):∀j,(d.eL j).2.dS
 | 0=>h
 | j+1=>au.dN (au.iy h j) 9
def au.mj(d:au):List Int×au:=(d.next 5).2.eL (d.next 5).1.toNat
theorem au.qC{d:au}(h:d.dS):d.mj.2.dS:=au.iy (au.dN h 5) _
theorem au.pc(d:au):d.mj.1.length≤4:=by
 have:=d.fW (n:=5) (by omega)
 unfold au.mj
 rw[au.jn];omega
theorem FJ(d:au)(hd:d.dS):c9 0 N.aR [.bp 0 0] [d.obj]=some (.t (tL d.mj.1),[d.mj.2.obj]):=by
 refine dw K.dy rfl ?_
 have o1:=lO d 5 (by omega) hd
 have l1:=d.iu 5
 have h1:=d.fW (n:=5) (by omega)
 have e1:=d.dN hd 5
 unfold au.mj
 generalize d.next 5=r at*
 obtain⟨a,d1⟩:=r
 simp only at o1 l1 h1 e1 ⊢
 obtain⟨n,rfl⟩:=Int.eq_ofNat_of_zero_le l1
 simp only[Int.toNat_natCast]
 have loop:∀z:D,exS c9 K.eV ⟨[.bp 0 0,z,.ref 1 0 0,I n],[d1.obj,.arr 1 false 0 []]⟩=some (.exit 0,⟨[.bp 0 0,.und,.ref 1 0 (d1.eL n).1.length,I 0],[(d1.eL n).2.obj,.arr 1 false 0 (ints (d1.eL n).1)]⟩):=by
  intro z
  refine iq (fun j=>⟨[.bp 0 0,.und,.ref 1 0 (d1.eL j).1.length,I ((n-j:Nat):Int)],[(d1.eL j).2.obj,.arr 1 false 0 (ints (d1.eL j).1)]⟩) n rfl ?_ ?_ (by simp)
  · intro j hj
    have il:=d1.jn j
    have lt:=au.iy e1 j
    simp only[au.eL]
    generalize d1.eL j=s at*
    obtain⟨out,dj⟩:=s
    simp only at il lt ⊢
    have o2:=lO dj 9 (by omega) lt
    have l2:=dj.iu 9
    have h2:=dj.fW (n:=9) (by omega)
    generalize dj.next 9=s at*
    obtain⟨x,dk⟩:=s
    obtain⟨k,hk⟩:∃k,n-j=k+1:=⟨n-j-1,by omega⟩
    have hk2:n-(j+1)=k:=by omega
    have wk:IntKind.i64.wrap (k:Int)=k:=eB (by omega) (by omega)
    simp only[ints,hk,hk2]at*
    simp(disch:=omega)only[go_sem,K.cN,↓reduceIte,o2,wk,reduceAdd,reduceSub]
  · simp only[Nat.sub_self]
    simp(disch:=omega)only[go_sem,K.cN,↓reduceIte,ints,reduceAdd,reduceSub]
 have il:=d1.jn n
 generalize d1.eL n=s at*
 obtain⟨out,dj⟩:=s
 simp only[ints]at*
 simp(disch:=omega)only[go_sem,K.aR,↓reduceIte,o1,loop,reduceAdd,reduceSub]
structure Scn(x:s4)(k:Keys)(c:Bel)(d:au):Prop where
 hx:x.area.length≤64
 h1:0≤x.hold
 h2:x.hold≤1000
 m1:0≤x.mis
 m2:x.mis≤10000
 hk:k.roads.length≤64
 hk2:k.keys.length≤64
 hc:c.sz
 dS:d.dS
end Go.Ev
namespace Go.Ev
open Go
variable [Lib] [aM] [aO] [bM] [bP] [di] [bU] [bV] [cH] [cG] [bG] [bN] [dK] [dL] [iw] [ec]
abbrev sl2(W:List (List Int)):List Ev.T:=W.map tL
def au.pA(d:au):Nat→List (List Int)×au
 | 0=>([],d)
 | j+1=>((d.pA j).1++[(d.pA j).2.mj.1],(d.pA j).2.mj.2)
def au.pd(d:au):Nat→List Int×au
 | 0=>([],d)
 | j+1=>((d.pd j).1++[((d.pd j).2.of [1,0,2, -1,100]).1],((d.pd j).2.of [1,0,2, -1,100]).2)
theorem au.nU(d:au):∀j,(d.pA j).1.length=j
 | 0=>rfl
 | j+1=>by simp only[au.pA,aLv,List.length_singleton,au.nU d j]
theorem au.nV(d:au):∀j,(d.pd j).1.length=j
 | 0=>rfl
 | j+1=>by simp only[au.pd,aLv,List.length_singleton,au.nV d j]
theorem au.jU{d:au}(h:d.dS):∀j,(d.pA j).2.dS
 | 0=>h
 | j+1=>au.qC (au.jU h j)
theorem au.jV{d:au}(h:d.dS):∀j,(d.pd j).2.dS
 | 0=>h
 | j+1=>au.yR (au.jV h j) _
theorem au.pe(d:au):∀j,∀x∈(d.eL j).1, -1≤x∧x≤7
 | 0,x,h=>by simp[au.eL]at h
 | j+1,x,h=>by
   rw[au.eL,List.mem_append]at h
   rcases h with h | h
   · exact au.pe d j x h
   · rw[List.mem_singleton.1 h]
     have:=(d.eL j).2.iu 9
     have:=(d.eL j).2.fW (n:=9) (by omega)
     omega
theorem au.r7(d:au):∀j,∀l∈(d.pA j).1,l.length≤4∧∀x∈l, -1≤x∧x≤7
 | 0,x,h=>by simp[au.pA]at h
 | j+1,x,h=>by
   rw[au.pA,List.mem_append]at h
   rcases h with h | h
   · exact au.r7 d j x h
   · rw[List.mem_singleton.1 h]
     exact⟨au.pc _,by unfold au.mj;exact au.pe _ _⟩
theorem au.r8(d:au):∀j,∀x∈(d.pd j).1, -1≤x∧x≤100
 | 0,x,h=>by simp[au.pd]at h
 | j+1,x,h=>by
   rw[au.pd,List.mem_append]at h
   rcases h with h | h
   · exact au.r8 d j x h
   · rw[List.mem_singleton.1 h]
     have:=(d.pd j).2.Lw (l:=[1,0,2, -1,100]) (by simp)
     simp only[List.mem_cons,List.not_mem_nil,or_false]at this
     omega
structure WS(W:List (List Int))(S:List Int):Prop where
 wl:W.length≤6
 sl:S.length≤5
 wb:∀l∈W,l.length≤4∧∀x∈l, -1≤x∧x≤7
 sb:∀x∈S, -1≤x∧x≤100
theorem xc(d:au)(hd:d.dS):∃(W:List (List Int)) (S:List Int) (d':au),c9 0 N.bj [.bp 0 0] [d.obj]=some (.tup [.t (.sl (W.map tL)),.t (tL S)],[d'.obj])∧WS W S∧d'.dS:=by
 have o1:=lO d 7 (by omega) hd
 have l1:=d.iu 7
 have h1:=d.fW (n:=7) (by omega)
 have e1:=d.dN hd 7
 generalize d.next 7=r at*
 obtain⟨a,d1⟩:=r
 simp only at o1 l1 h1 e1 ⊢
 obtain⟨n,rfl⟩:=Int.eq_ofNat_of_zero_le l1
 have wl:=d1.nU n
 have wb:=d1.r7 n
 have lt:=au.jU e1 n
 have loop1:∀z1 z2 z5 z6:D,exS c9 K.ga ⟨[.bp 0 0,z1,z2,.ref 1 0 0,I n,z5,z6],[d1.obj,.arr 1 false 0 []]⟩=some (.exit 0,⟨[.bp 0 0,.und,.und,.ref 1 0 n,I 0,.und,.und],[(d1.pA n).2.obj,.arr 1 false 0 (((d1.pA n).1.map tL).map .t)]⟩):=by
  intro z1 z2 z5 z6
  refine iq (fun j=>⟨[.bp 0 0,.und,.und,.ref 1 0 j,I ((n-j:Nat):Int),.und,.und],[(d1.pA j).2.obj,.arr 1 false 0 (((d1.pA j).1.map tL).map .t)]⟩) n rfl ?_ ?_ (by simp)
  · intro j hj
    have il:=d1.nU j
    have lt:=au.jU e1 j
    simp only[au.pA]
    generalize d1.pA j=s at*
    obtain⟨out,dj⟩:=s
    simp only at il lt ⊢
    subst il
    have o2:=FJ dj lt
    have l2:=dj.pc
    generalize dj.mj=s at*
    obtain⟨x,dk⟩:=s
    obtain⟨k,hk⟩:∃k,n-out.length=k+1:=⟨n-out.length-1,by omega⟩
    have hk2:n-(out.length+1)=k:=by omega
    have wk:IntKind.i64.wrap (k:Int)=k:=eB (by omega) (by omega)
    simp only[hk,hk2]at*
    simp(disch:=omega)only[go_sem,K.dz,↓reduceIte,o2,wk,reduceAdd,reduceSub]
  · simp only[Nat.sub_self]
    simp(disch:=omega)only[go_sem,K.dz,↓reduceIte,reduceAdd,reduceSub]
 generalize d1.pA n=s at*
 obtain⟨W,d2⟩:=s
 simp only at wl wb lt loop1
 have o3:=lO d2 6 (by omega) lt
 have l3:=d2.iu 6
 have h3:=d2.fW (n:=6) (by omega)
 have e3:=d2.dN lt 6
 generalize d2.next 6=r at*
 obtain⟨a,d3⟩:=r
 simp only at o3 l3 h3 e3
 obtain⟨m,rfl⟩:=Int.eq_ofNat_of_zero_le l3
 have sl:=d3.nV m
 have sb:=d3.r8 m
 have lt4:=au.jV e3 m
 have loop2:∀z1 z2 z4:D,exS c9 K.gg ⟨[.bp 0 0,z1,z2,.ref 1 0 n,z4,.ref 2 0 0,I m],[d3.obj,.arr 1 false 0 ((W.map tL).map .t),.arr 1 false 0 []]⟩=some (.exit 2,⟨[.bp 0 0,.und,.und,.ref 1 0 n,.und,.ref 2 0 m,I 0],[(d3.pd m).2.obj,.arr 1 false 0 ((W.map tL).map .t),.arr 1 false 0 (ints (d3.pd m).1)]⟩):=by
  intro z1 z2 z4
  clear loop1
  generalize (W.map tL)=A at*
  refine iq (fun j=>⟨[.bp 0 0,.und,.und,.ref 1 0 n,.und,.ref 2 0 j,I ((m-j:Nat):Int)],[(d3.pd j).2.obj,.arr 1 false 0 (A.map .t),.arr 1 false 0 (ints (d3.pd j).1)]⟩) m rfl ?_ ?_ (by simp)
  · intro j hj
    have il:=d3.nV j
    have lt:=au.jV e3 j
    simp only[au.pd]
    generalize d3.pd j=s at*
    obtain⟨out,dj⟩:=s
    simp only at il lt ⊢
    subst il
    have o2:c9 0 N.aY [.bp 0 0,.t (.sl [tI 1,tI 0,tI 2,tI (-1),tI 100])] [dj.obj]=some (I (dj.of [1,0,2, -1,100]).1,[(dj.of [1,0,2, -1,100]).2.obj]):=R0 dj [1,0,2, -1,100] (by simp) (by simp) lt
    generalize dj.of [1,0,2, -1,100]=s at*
    obtain⟨x,dk⟩:=s
    obtain⟨k,hk⟩:∃k,m-out.length=k+1:=⟨m-out.length-1,by omega⟩
    have hk2:m-(out.length+1)=k:=by omega
    have wk:IntKind.i64.wrap (k:Int)=k:=eB (by omega) (by omega)
    simp only[hk,hk2,ints]at*
    simp(disch:=omega)only[go_sem,K.dA,↓reduceIte,o2,wk,reduceAdd,reduceSub]
  · simp only[Nat.sub_self]
    simp(disch:=omega)only[go_sem,K.dA,↓reduceIte,reduceAdd,reduceSub]
 generalize d3.pd m=s at*
 obtain⟨S,d4⟩:=s
 simp only at sl sb lt4 loop2
 refine⟨W,S,d4,dw K.eI rfl ?_,⟨by omega,by omega,wb,sb⟩,lt4⟩
 subst sl
 subst wl
 simp only[ints]at loop2
 simp(disch:=omega)only[go_sem,K.bj,↓reduceIte,o1,loop1,o3,loop2,reduceAdd,reduceSub]
theorem r9{α:Type} [Dat α](l:List α){j k:Nat}(h:l.length=j+1+k):l.reverse.take (j+1)=l.reverse.take j++[nth l k]:=by
 rw[ru (by rw[List.length_reverse];omega),lM l (by omega)]
 congr 3
 omega
theorem sf(f:List Int→List Int)(W:List (List Int)){i:Nat}(h:i<W.length):nth (W.map f) i=f (nth W i):=by
 unfold nth
 rw[aLl,aLn,aLc h,aLl,aLc h];rfl
theorem nW{W:List (List Int)}{i:Nat}(h:i<W.length):nth W i∈W:=by
 unfold nth
 rw[aLl,aLc h]
 exact List.getElem_mem h
theorem WS.O2{W:List (List Int)}{S:List Int}(h:WS W S):∃c:Nat,c9 0 N.aI [.t (.sl (W.map tL)),.t (tL S)] []=some (I c,[])∧eU W S c∧c≤W.length:=by
 have:=h.wl
 have:=h.sl
 refine w9 (by omega) (by omega) (fun n=>?_) (fun i=>?_)
 · by_cases l:n<S.length
   · have:=(h.sb _ (jK l)).2;omega
   · unfold nth;rw[aLl,aLm (by omega)];show(0:Int)≤_;omega
 · by_cases l:i<W.length
   · have:=(h.wb _ (nW l)).1;omega
   · unfold nth;rw[aLl,aLm (by omega)];exact Nat.zero_le _
theorem xd(aw:c9 0 N.bD [] []=some (B true,[]))(li:List Int):c9 0 N.aF [.t (tL li)] []=some (B true,[]):=by
 refine dw K.cB rfl ?_
 have lo:=yQ li
 by_cases c:li.length≤400
 · simp only[c,decide_true]at lo
   have ro:=LY li
   have d0:(au.mk li 0).dS:=c
   generalize (au.mk li 0)=d at*
   obtain⟨W,S,d1,wo,ws,l1⟩:=xc d d0
   have wl:=ws.wl
   have sl:=ws.sl
   have mW:∀l∈W.reverse,l.length≤4∧∀x∈l, -1≤x∧x≤7:=fun l hl=>ws.wb l (List.mem_reverse.1 hl)
   obtain⟨n0,c0,m0, -⟩:=ws.O2
   obtain⟨n1,c1,m1, -⟩:=(show WS W.reverse S from⟨by simpa using wl,sl,mW,ws.sb⟩).O2
   have m2:∃c:Nat,c9 0 N.aI [.t (.sl ((W.map fun l=>l.map fun x=>(S.length:Int)-1-x).map tL)),.t (tL S.reverse)] []=some (I c,[])∧eU (W.map fun l=>l.map fun x=>(S.length:Int)-1-x) S.reverse c∧c≤(W.map fun l=>l.map fun x=>(S.length:Int)-1-x).length:=by
    refine w9 (by simpa using by omega) (by simpa using by omega) (fun n=>?_) (fun i=>?_)
    · by_cases l:n<S.reverse.length
      · have:=(ws.sb _ (List.mem_reverse.1 (jK l))).2;omega
      · unfold nth;rw[aLl,aLm (by omega)];show(0:Int)≤_;omega
    · by_cases l:i<W.length
      · rw[sf _ _ l,List.length_map]
        have:=(ws.wb _ (nW l)).1;omega
      · unfold nth;rw[aLl,aLm (by simpa using l)];exact Nat.zero_le _
   obtain⟨n2,c2,m2, -⟩:=m2
   have q1:n1=n0:=m1.uniq (sV m0 (by simp) fun i hi=>by
    rw[lM W (by omega)]
    congr 1;omega)
   have q2:n2=n0:=m2.uniq (sW m0 (by simp) fun i hi=>sf _ _ hi)
   subst q1
   subst q2
   clear m0 m1 m2
   have wb:=ws.wb
   have lp1:∀z0 z1 z2 z7 z8 z9 z10 z11 z12 z13:D,exS c9 K.dC ⟨[z0,z1,z2,.t (.sl (W.map tL)),.t (tL S),.ref 1 0 0,I ((W.length:Int)-1),z7,z8,z9,z10,z11,z12,z13],[d1.obj,.arr 1 false 0 []]⟩=
    some (.exit 0,⟨[.und,.und,.und,.t (.sl (W.map tL)),.t (tL S),.ref 1 0 W.length,I (-1),.und,.und,.und,.und,.und,.und,.und],[d1.obj,.arr 1 false 0 ((W.reverse.map tL).map .t)]⟩):=by
    intro z0 z1 z2 z7 z8 z9 z10 z11 z12 z13
    refine iq (fun j=>⟨[.und,.und,.und,.t (.sl (W.map tL)),.t (tL S),.ref 1 0 j,I ((W.length:Int)-(1+j)),.und,.und,.und,.und,.und,.und,.und],[d1.obj,.arr 1 false 0 (((W.reverse.take j).map tL).map .t)]⟩) W.length rfl ?_ ?_ (by simp)
    · intro j hj
      obtain⟨k,hk⟩:∃k,W.length=j+1+k:=⟨W.length-(j+1),by omega⟩
      have rt:=r9 W hk
      have e0:(W.length:Int)-(1+(j:Int))=(k:Int):=by omega
      have e1:(W.length:Int)-(1+((j+1:Nat):Int))=(k:Int)-1:=by omega
      have wg:(W.map tL)[k]?=some (tL (nth W k)):=by
       unfold nth
       rw[aLn,aLc (by omega),aLl,aLc (by omega)];rfl
      have rl:(W.reverse.take j).length=j:=by rw[List.length_take,List.length_reverse];omega
      have wk:IntKind.i64.wrap ((k:Int)-1)=(k:Int)-1:=eB (by omega) (by omega)
      rw[rt,e0,e1]
      generalize W.reverse.take j=R at*
      subst rl
      generalize nth W k=x at*
      clear c0 c1 c2 wo
      simp(disch:=omega)only[go_sem,K.b8,↓reduceIte,wg,wk,reduceAdd,reduceSub]
    · have e0:(W.length:Int)-(1+(W.length:Int))= -1:=by omega
      rw[e0,show W.reverse.take W.length=W.reverse from List.take_of_length_le (by simp)]
      generalize W.length=wn at*
      simp(disch:=omega)only[go_sem,K.b8,↓reduceIte,reduceAdd,reduceSub]
   have lp2:∀z0 z1 z2 z6 z9 z10 z11 z12 z13:D,exS c9 K.dD ⟨[z0,z1,z2,.t (.sl (W.map tL)),.t (tL S),.ref 1 0 W.length,z6,.ref 2 0 0,I ((S.length:Int)-1),z9,z10,z11,z12,z13],[d1.obj,.arr 1 false 0 ((W.reverse.map tL).map .t),.arr 1 false 0 []]⟩=
    some (.exit 2,⟨[.und,.und,.und,.t (.sl (W.map tL)),.t (tL S),.ref 1 0 W.length,.und,.ref 2 0 S.length,I (-1),.und,.und,.und,.und,.und],[d1.obj,.arr 1 false 0 ((W.reverse.map tL).map .t),.arr 1 false 0 (ints S.reverse)]⟩):=by
    intro z0 z1 z2 z6 z9 z10 z11 z12 z13
    refine iq (fun j=>⟨[.und,.und,.und,.t (.sl (W.map tL)),.t (tL S),.ref 1 0 W.length,.und,.ref 2 0 j,I ((S.length:Int)-(1+j)),.und,.und,.und,.und,.und],[d1.obj,.arr 1 false 0 ((W.reverse.map tL).map .t),.arr 1 false 0 (ints (S.reverse.take j))]⟩) S.length rfl ?_ ?_ (by simp)
    · intro j hj
      obtain⟨k,hk⟩:∃k,S.length=j+1+k:=⟨S.length-(j+1),by omega⟩
      have rt:=r9 S hk
      have e0:(S.length:Int)-(1+(j:Int))=(k:Int):=by omega
      have e1:(S.length:Int)-(1+((j+1:Nat):Int))=(k:Int)-1:=by omega
      have wg:(S.map (Ev.T.int .i64))[k]?=some (tI (nth S k)):=ir _ (by omega)
      have rl:(S.reverse.take j).length=j:=by rw[List.length_take,List.length_reverse];omega
      have wk:IntKind.i64.wrap ((k:Int)-1)=(k:Int)-1:=eB (by omega) (by omega)
      rw[rt,e0,e1]
      simp only[ints]
      generalize S.reverse.take j=R at*
      subst rl
      generalize nth S k=x at*
      generalize W.length=wn at*
      generalize W.reverse.map tL=W2 at*
      clear c0 c1 c2 wo lp1
      simp(disch:=omega)only[go_sem,K.b9,↓reduceIte,wg,wk,reduceAdd,reduceSub]
    · have e0:(S.length:Int)-(1+(S.length:Int))= -1:=by omega
      rw[e0,show S.reverse.take S.length=S.reverse from List.take_of_length_le (by simp)]
      clear c0 c1 c2 wo lp1
      generalize S.length=sn at*
      generalize W.length=wn at*
      generalize W.reverse.map tL=W2 at*
      simp(disch:=omega)only[go_sem,K.b9,↓reduceIte,reduceAdd,reduceSub]
   have lp3:∀z0 z1 z2 z6 z8 z11 z12 z13:D,exS c9 K.dF ⟨[z0,z1,z2,.t (.sl (W.map tL)),.t (tL S),.ref 1 0 W.length,z6,.ref 2 0 S.length,z8,.ref 3 0 0,I 0,z11,z12,z13],[d1.obj,.arr 1 false 0 ((W.reverse.map tL).map .t),.arr 1 false 0 (ints S.reverse),.arr 1 false 0 []]⟩=
    some (.exit 4,⟨[.und,.und,.und,.t (.sl (W.map tL)),.t (tL S),.ref 1 0 W.length,.und,.ref 2 0 S.length,.und,.ref 3 0 W.length,I W.length,.und,.und,.und],[d1.obj,.arr 1 false 0 ((W.reverse.map tL).map .t),.arr 1 false 0 (ints S.reverse),.arr 1 false 0 (((W.map fun l=>l.map fun x=>(S.length:Int)-1-x).map tL).map .t)]⟩):=by
    intro z0 z1 z2 z6 z8 z11 z12 z13
    refine iq (fun j=>⟨[.und,.und,.und,.t (.sl (W.map tL)),.t (tL S),.ref 1 0 W.length,.und,.ref 2 0 S.length,.und,.ref 3 0 j,I j,.und,.und,.und],[d1.obj,.arr 1 false 0 ((W.reverse.map tL).map .t),.arr 1 false 0 (ints S.reverse),.arr 1 false 0 ((((W.take j).map fun l=>l.map fun x=>(S.length:Int)-1-x).map tL).map .t)]⟩) W.length rfl ?_ ?_ (by simp)
    · intro j hj
      have wg:(W.map tL)[j]?=some (tL (nth W j)):=by
       unfold nth
       rw[aLn,aLc (by omega),aLl,aLc (by omega)];rfl
      obtain⟨xl,xb⟩:=wb _ (nW hj)
      have st:((W.take (j+1)).map fun l=>l.map fun x=>(S.length:Int)-1-x)=((W.take j).map fun l=>l.map fun x=>(S.length:Int)-1-x)++[(nth W j).map fun x=>(S.length:Int)-1-x]:=by
       have:W.take (j+1)=W.take j++[nth W j]:=by
        rw[List.take_succ_eq_append_getElem (by omega)]
        congr 2
        unfold nth
        rw[aLl,aLc (by omega)];rfl
       rw[this,List.map_append];rfl
      have rl:((W.take j).map fun l=>l.map fun x=>(S.length:Int)-1-x).length=j:=by rw[List.length_map,List.length_take];omega
      rw[st]
      generalize ((W.take j).map fun l=>l.map fun x=>(S.length:Int)-1-x)=R at*
      generalize nth W j=x at*
      subst rl
      simp only[ints]
      clear c0 c1 c2 wo lp1 lp2
      generalize W.reverse.map tL=W2 at*
      have l2:S.reverse.length=S.length:=List.length_reverse
      generalize S.reverse.map (Ev.T.int .i64)=S2 at*
      have sl2:(tL S)= .sl (S.map (Ev.T.int .i64)):=rfl
      have lp4:∀z0 z1 z2 z6 z8 z13:D,exS c9 K.dE ⟨[z0,z1,z2,.t (.sl (W.map tL)),.t (tL S),.ref 1 0 W.length,z6,.ref 2 0 S.length,z8,.ref 3 0 R.length,I R.length,.ref 4 0 0,I 0,z13],[d1.obj,.arr 1 false 0 (W2.map .t),.arr 1 false 0 (S2.map .t),.arr 1 false 0 ((R.map tL).map .t),.arr 1 false 0 []]⟩=
       some (.exit 6,⟨[.und,.und,.und,.t (.sl (W.map tL)),.t (tL S),.ref 1 0 W.length,.und,.ref 2 0 S.length,.und,.ref 3 0 R.length,I R.length,.ref 4 0 x.length,I x.length,.und],[d1.obj,.arr 1 false 0 (W2.map .t),.arr 1 false 0 (S2.map .t),.arr 1 false 0 ((R.map tL).map .t),.arr 1 false 0 (ints (x.map fun x=>(S.length:Int)-1-x))]⟩):=by
       intro z0 z1 z2 z6 z8 z13
       refine iq (fun k=>⟨[.und,.und,.und,.t (.sl (W.map tL)),.t (tL S),.ref 1 0 W.length,.und,.ref 2 0 S.length,.und,.ref 3 0 R.length,I R.length,.ref 4 0 k,I k,.und],[d1.obj,.arr 1 false 0 (W2.map .t),.arr 1 false 0 (S2.map .t),.arr 1 false 0 ((R.map tL).map .t),.arr 1 false 0 (ints ((x.take k).map fun x=>(S.length:Int)-1-x))]⟩) x.length rfl ?_ ?_ (by simp)
       · intro k hk
         have xg:(x.map (Ev.T.int .i64))[k]?=some (tI (nth x k)):=ir _ hk
         obtain⟨y1,y2⟩:=xb _ (jK hk)
         have st:(x.take (k+1)).map (fun x=>(S.length:Int)-1-x)=(x.take k).map (fun x=>(S.length:Int)-1-x)++[(S.length:Int)-1-nth x k]:=by
          rw[ru hk,List.map_append];rfl
         have rl:((x.take k).map fun x=>(S.length:Int)-1-x).length=k:=by rw[List.length_map,List.length_take];omega
         rw[st]
         generalize (x.take k).map (fun x=>(S.length:Int)-1-x)=R2 at*
         generalize nth x k=y at*
         have k1:IntKind.i64.wrap ((S.length:Int)-1)=(S.length:Int)-1:=eB (by omega) (by omega)
         have k2:IntKind.i64.wrap ((S.length:Int)-1-y)=(S.length:Int)-1-y:=eB (by omega) (by omega)
         subst rl
         simp only[ints]
         simp(disch:=omega)only[go_sem,K.cf,↓reduceIte,wg,xg,k1,k2,reduceAdd,reduceSub]
       · rw[List.take_length]
         simp(disch:=omega)only[go_sem,K.cf,↓reduceIte,wg,reduceAdd,reduceSub]
      simp only[ints]at*
      have e4:(x.map fun x=>(S.length:Int)-1-x).length=x.length:=List.length_map _
      generalize (x.map fun x=>(S.length:Int)-1-x)=x2 at*
      simp(disch:=omega)only[go_sem,K.cg,↓reduceIte,lp4,e4,reduceAdd,reduceSub]
    · rw[List.take_length]
      simp only[ints]
      clear c0 c1 c2 wo lp1 lp2
      generalize W.reverse.map tL=W2 at*
      generalize S.reverse.map (Ev.T.int .i64)=S2 at*
      generalize (W.map fun l=>l.map fun x=>(S.length:Int)-1-x).map tL=W3 at*
      simp(disch:=omega)only[go_sem,K.cg,↓reduceIte,reduceAdd,reduceSub]
   have e1:W.reverse.length=W.length:=List.length_reverse
   have e2:S.reverse.length=S.length:=List.length_reverse
   have e3:(W.map fun l=>l.map fun x=>(S.length:Int)-1-x).length=W.length:=List.length_map _
   generalize (W.map fun l=>l.map fun x=>(S.length:Int)-1-x)=W3 at*
   generalize W.reverse=W2 at*
   generalize S.reverse=S2 at*
   simp only[ints]at*
   have k1:IntKind.i64.wrap ((W.length:Int)-1)=(W.length:Int)-1:=eB (by omega) (by omega)
   have k2:IntKind.i64.wrap ((S.length:Int)-1)=(S.length:Int)-1:=eB (by omega) (by omega)
   simp(disch:=omega)only[go_sem,K.aF,↓reduceIte,k1,k2,lo,ro,wo,lp1,lp2,lp3,aw,c0,c1,c2,reduceAdd,reduceSub]
 · simp only[c,decide_false]at lo
   simp(disch:=omega)only[go_sem,K.aF,↓reduceIte,lo,aw,reduceAdd,reduceSub]
end Go.Ev
namespace Go.Ev.K
open Go.Ev
def ed:C:= (.seq (.ite [m v4,m v3,u (.ln l0),u (.bin .lss l2 l0)] [] 0 .skip (.exit 2)) (.seq (.blk 3 (.ite [m v3,m v4,a 1 l1 l0,g l0,m v3,m v4,u (.bin .sub l0 (.i 1)),a 1 l2 l0,g l0,u (.bin .neq l5 l0)] [] 0 (q [m v0,m v2,m v3,m v4,a 1 l1 l0,g l0,a 1 l5 l4,u (.st l0 l1 1 [])] [] (.reg [m v2,u (.bin .add l0 (.i 1)),x 2 l0] [])) .skip)) (.reg [m v4,u (.bin .add l0 (.i 1)),x 4 l0] [])))
def eM:C:= .loop true [1] K.ed
def ef:C:= (.seq (.ite [m v2,m v0,u (.ln l0),u (.bin .lss l2 l0)] [] 0 .skip (.exit 0)) (.seq (.blk 1 (.ite [m v0,m v2,a 1 l1 l0,g l0,m v0,m v2,u (.bin .sub l0 (.i 1)),a 1 l2 l0,g l0,u (.bin .eql l5 l0)] [] 0 (q [m v0,m v2,u (.sc l1 (some l0) none 1),x 3 l0] [] (.seq (q [x 4 (.i 1)] [] (.blk 2 K.eM)) (q [m v0,m v2,u (.sc l1 (some l0) none 1),u (.clr l0 (.int .i64 (0)) 1)] [] (q [m v0,m v2,u (.pop l1 l0),x 1 l0] [] .ret)))) .skip)) (.reg [m v2,u (.bin .add l0 (.i 1)),x 2 l0] [])))
def eN:C:= .loop true [1,3,4] K.ef
def aA:Fn:= { cI:=1,vars:=[0,2,3,4,5],body:=(q [w 1 (.mv (.c (.nil)))] [] (.seq (.ite [m v0,u (.ln l0),u (.bin .lss l0 (.i 2))] [] 0 (q [m v0,x 1 l0] [] .ret) .skip) (.seq (q [x 2 (.i 1)] [] (.blk 0 K.eN)) (q [m v0,x 1 l0] [] .ret)))),res:=[(1,none)]}
end Go.Ev.K
namespace Go.Ev
class FK [Lib]:Prop where
 cF:Lib.fs N.aA=some K.aA
namespace K
variable [Lib] [FK]
theorem cF:Lib.fs N.aA=some K.aA:=FK.cF
end K
end Go.Ev
namespace Go.Ev.K
open Go.Ev
def aL:Fn:= { cI:=1,vars:=[0,2],body:=(q [w 1 (.mv (.c (.nil)))] [] (q [m v0,m v0,u (.ln l0),m v0,u (.ln l0),u (.s3 l4 l2 l0),x 1 l0] [] .ret)),res:=[(1,none)]}
end Go.Ev.K
namespace Go.Ev
class FL [Lib]:Prop where
 dr:Lib.fs N.aL=some K.aL
namespace K
variable [Lib] [FL]
theorem dr:Lib.fs N.aL=some K.aL:=FL.dr
end K
end Go.Ev
