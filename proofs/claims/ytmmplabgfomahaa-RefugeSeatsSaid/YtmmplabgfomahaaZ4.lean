/- Parts of the proof: see the text that holds the theorem. -/
import Derived.Test.YtmmplabgfomahaaZ3
set_option linter.all false
open Nat (reduceAdd reduceSub)
set_option maxRecDepth 100000
namespace Go.Ev
open Go
variable [Lib] [aL] [aN] [bF] [bJ] [cT] [bL] [bM] [cC] [cA] [aZ] [a7] [bX] [bY] [eK] [dy]
abbrev zM(i j L wl:Nat)(l:List Int):List D:=[.bp 0 0,I i,.ref 1 0 L,.und,.und,.und,.und,.t (tL l),I wl,I j,.und,.und,.und]
theorem zN{W:List (List Int)}{S:List Int}{T:List Bool}{G:List (List Int)}{n:Nat}(hn:n<G.length)(hne:nth G n≠[])(i:Int):
 (.box [.t (.sl (W.map tL)),.t (tL S),.ref 2 0 G.length]:: .arr 1 false 0 (bls T):: .arr 1 false 0 ((esT G (fun n=>3+rk G n) G.length).set n (.ref (3+rk G n) 0 ((nth G n).length+1)))::(aT G G G.length).set (rk G n) (arA (nth G n++[i])):ab)=
 eC W S T (G.set n (nth G n++[i])) (fK G) (aT G (G.set n (nth G n++[i])) G.length++[]):=by
 have e1:=tA (G:=G) (G2:=G.set n (nth G n++[i])) (f:=fun n=>3+rk G n) (f2:=fK G) G.length hn (fun k hk hkn=>by
  rw[bh (fun z=>hkn z.symm)]
  exact⟨Iff.rfl,fun h=>⟨by unfold fK;rw[if_neg h],rfl⟩⟩)
 rw[cF hn,if_neg (by simp)]at e1
 have f:fK G n=3+rk G n:=by unfold fK;rw[if_neg hne]
 rw[f,aLv,List.length_singleton]at e1
 have e2:=zI (G1:=G) (G2:=G.set n (nth G n++[i])) hne G.length hn (fun k hk hkn _=>by rw[bh (fun z=>hkn z.symm)])
 rw[cF hn]at e2
 simp only[eC,e1,e2,List.length_set,List.append_nil]
theorem zO{W:List (List Int)}{S:List Int}{T:List Bool}{G:List (List Int)}{n:Nat}(hn:n<G.length)(hne:nth G n=[])(i:Int):
 (.box [.t (.sl (W.map tL)),.t (tL S),.ref 2 0 G.length]:: .arr 1 false 0 (bls T):: .arr 1 false 0 ((esT G (fun n=>3+rk G n) G.length).set n (.ref ((aT G G G.length).length+1+1+1) 0 1))::(aT G G G.length++[.arr 1 false 0 [I i]]):ab)=
 eC W S T (G.set n [i]) (fK G) (aT G (G.set n [i]) G.length++[arA (nth (G.set n [i]) n)]):=by
 have e1:=tA (G:=G) (G2:=G.set n [i]) (f:=fun n=>3+rk G n) (f2:=fK G) G.length hn (fun k hk hkn=>by
  rw[bh (fun z=>hkn z.symm)]
  exact⟨Iff.rfl,fun h=>⟨by unfold fK;rw[if_neg h],rfl⟩⟩)
 rw[cF hn,if_neg (by simp)]at e1
 have f:fK G n=(aT G G G.length).length+1+1+1:=by unfold fK;rw[if_pos hne,fy];omega
 rw[f,List.length_singleton]at e1
 have e2:aT G (G.set n [i]) G.length=aT G G G.length:=qd _ fun k hk hke=>by rw[bh (fun z=>by subst z;exact hke hne)]
 rw[cF hn,e2]
 simp only[eC,e1,List.length_set]
 rfl
theorem zP{G:List (List Int)}{n:Nat}(hn:n<G.length)(hne:nth G n≠[])(i:Int):vj G (G.set n (nth G n++[i])) []:=by
 refine⟨fun m hm=>?_,.inl ⟨rfl,fun m hm=>?_⟩⟩
 · by_cases e:m=n
   · subst e;rw[cF hn];simp
   · rw[bh (fun z=>e z.symm)];exact hm
 · have:n≠m:=fun z=>by subst z;exact hne hm
   rw[bh this];exact hm
theorem zQ{G:List (List Int)}{n:Nat}(hn:n<G.length)(hne:nth G n=[])(i:Int):vj G (G.set n [i]) [arA (nth (G.set n [i]) n)]:=by
 refine⟨fun m hm=>?_,.inr ⟨n,hn,hne,by rw[cF hn];simp,rfl,fun m hm1 hm2=>?_⟩⟩
 · have:n≠m:=fun z=>by subst z;exact hm hne
   rw[bh this];exact hm
 · rw[bh (fun z=>hm1 z.symm)];exact hm2
theorem tC{T:List Bool}{n:Nat}(h:n<T.length):nth (T.set n true) n=true:=by
 unfold nth
 rw[aLl,aLj h];rfl
theorem vn{T:List Bool}{n:Nat}(h:n<T.length){m:Nat}(hm:nth T m=true):nth (T.set n true) m=true:=by
 by_cases e:n=m
 · subst e;exact tC h
 · unfold nth at hm ⊢
   rw[aLl,aLi e,←aLl];exact hm
theorem fQ.mono{W:List (List Int)}{S:List Int}{G G2:List (List Int)}{i:Int}{T T2:Nat→Bool}(h:fQ W S G i T2 G2)(s:∀n,T n=true→T2 n=true):fQ W S G i T G2:=⟨h.gi,h.pm,fun n hn=>h.old n (s n hn),h.clo⟩
theorem Qu{W:List (List Int)}{S:List Int}{G:List (List Int)}(hW:W.length≤1000)(hS:S.length≤1000)(hG:GI W S G)(hc:∀n,(nth G n).length≤1000000)(hwl:∀i,(nth W i).length≤1000000){i:Nat}(hi:i<W.length){T:List Bool}(tl:T.length=S.length)
 (ih:∀T':List Bool,T'.length=S.length→left T'<left T→∀o:Nat,o<W.length→∃r,bV 0 N.ai [.bp 0 0,I o,.ref 1 0 S.length] (cL W S T' G)=some (B r.1,r.2)∧CU W S G o T' r) (z3 z4 z5 z6 z10 z11 z12:D):
 ∃q,exS bV K.eB ⟨[.bp 0 0,I i,.ref 1 0 S.length,z3,z4,z5,z6,.t (tL (nth W i)),I (nth W i).length,I 0,z10,z11,z12],cL W S T G⟩=some q∧
  ((∃T2:List Bool,q=(.exit 0,⟨zM i (nth W i).length S.length (nth W i).length (nth W i),cL W S T2 G⟩)∧T2.length=S.length∧nV W S G i (Tb T) (Tb T2)∧left T2≤left T)∨
   ∃(T2:List Bool) (G2:List (List Int)) (x:ab) (vs:List D),q=(.ret,⟨vs,eC W S T2 G2 (fK G) (aT G G2 G.length++x)⟩)∧vs[3]?=some (B true)∧T2.length=S.length∧vj G G2 x∧fQ W S G i (Tb T) G2):=by
 have gl:=hG.len
 refine yY (fun j st=>∃T':List Bool,T'.length=S.length∧Acc W S G (Tb T) (Tb T')∧left T'≤left T∧(∀q,q<j→∀x:Nat,x<S.length→(x:Int)=nth (nth W i) q→Tb T' x=true)∧st=⟨zM i j S.length (nth W i).length (nth W i),cL W S T' G⟩) (nth W i).length _ ⟨T,tl,Acc.refl _ _ _ _,aLs _,fun q hq=>by omega,by simp only[go_sem,zM,Int.natCast_zero]⟩ ?_ ?_
 · rintro j st hj ⟨T',tl',acc,lf,ws,rfl⟩
   have wg:((nth W i).map (Ev.T.int .i64))[j]?=some (tI (nth (nth W i) j)):=cO _ hj
   have li:=Pl (nth (nth W i) j) 0 ((S.length:Int)-1)
   have wb:=hwl i
   have cl:=fV W S T' G
   by_cases cin:0≤nth (nth W i) j∧nth (nth W i) j≤(S.length:Int)-1
   · rw[decide_eq_true cin]at li
     obtain⟨n,hn⟩:=Int.eq_ofNat_of_zero_le cin.1
     rw[hn]at cin wg li
     have hnl:n<S.length:=by omega
     have hw:(n:Int)∈nth W i:=by rw[← hn];exact aLd (gq hj)
     have tg:=Jz (T:=T') (n:=n) (by omega)
     have bl:=Jy T'
     have bl2:n<(bls T').length:=by omega
     have ho:=mU W S T' G
     have tk:(cL W S T' G).take (3+rk G G.length)=cL W S T' G:=List.take_of_length_le (by omega)
     have k0:(cL W S T' G)[0]?=some (.box [.t (.sl (W.map tL)),.t (tL S),.ref 2 0 G.length]):=rfl
     have k1:(cL W S T' G)[1]?=some (.arr 1 false 0 (bls T')):=rfl
     have k2:(cL W S T' G)[2]?=some (.arr 1 false 0 (esT G (fun n=>3+rk G n) G.length)):=rfl
     have k33:3≤3+rk G G.length:=by omega
     have b0:ltB 0 (3+rk G G.length)=true:=by rw[df];simp;omega
     have b1:ltB 1 (3+rk G G.length)=true:=by rw[df];simp;omega
     cases et:nth T' n with
     | true=>
       rw[et]at tg
       left
       refine⟨⟨zM i (j+1) S.length (nth W i).length (nth W i),cL W S T' G⟩,?_,T',tl',acc,lf,fun q hq x hx hxe=>?_,rfl⟩
       · rw[cl]
         generalize cL W S T' G=K1 at*
         generalize 3+rk G G.length=kL at*
         generalize bls T'=Bs at*
         clear ih ws acc
         simp only[zM]
         simp(disch:=omega)only[go_sem,K.aq,↓reduceIte,wg,li,k0,k1,tg,ho,tk,b0,b1,reduceAdd,reduceSub]
       · by_cases e:q=j
         · subst e
           have:x=n:=by omega
           subst this;exact et
         · exact ws q (by omega) x hx hxe
     | false=>
       rw[et]at tg
       have sg:(bls T').set n (B true)=bls (T'.set n true):=Jx T' n true
       have st1:(cL W S T' G).set 1 (.arr 1 false 0 (bls (T'.set n true)))=cL W S (T'.set n true) G:=rfl
       have l1:=vi (T:=T') (n:=n) (by omega) et
       have tl1:(T'.set n true).length=S.length:=by rw[List.length_set];exact tl'
       have k4:(cL W S (T'.set n true) G)[0]?=some (.box [.t (.sl (W.map tL)),.t (tL S),.ref 2 0 G.length]):=rfl
       have k5:(cL W S (T'.set n true) G)[2]?=some (.arr 1 false 0 (esT G (fun n=>3+rk G n) G.length)):=rfl
       have eg:(esT G (fun n=>3+rk G n) G.length)[n]?=some (vl G n):=by rw[p9 G _ G.length (by omega)];rfl
       have sg2:(S.map (Ev.T.int .i64))[n]?=some (tI (nth S n)):=cO _ hnl
       by_cases hf:((nth G n).length:Int)<nth S n
       · right
         have po:=(wU hG hi hnl hw hf et).mono acc.sub
         have e3:=fU G (fun n=>3+rk G n) G.length
         have lf2:=decide_eq_true hf
         by_cases hne:nth G n=[]
         · have fs:=zO (W:=W) (S:=S) (T:=T'.set n true) (G:=G) (n:=n) (by omega) hne i
           rw[hne]at lf2 po
           rw[List.nil_append]at po
           have gD:vl G n= .nil:=if_pos hne
           rw[gD]at eg
           have nx:=zQ (G:=G) (n:=n) (by omega) hne (i:Int)
           have fin:∃vs,exS bV K.aq ⟨zM i j S.length (nth W i).length (nth W i),cL W S T' G⟩=some (.ret,⟨vs,eC W S (T'.set n true) (G.set n [(i:Int)]) (fK G) (aT G (G.set n [(i:Int)]) G.length++[arA (nth (G.set n [(i:Int)]) n)])⟩)∧vs[3]?=some (B true):=by
            generalize eC W S (T'.set n true) (G.set n [(i:Int)]) (fK G) (aT G (G.set n [(i:Int)]) G.length++[arA (nth (G.set n [(i:Int)]) n)])=K3 at*
            clear ih ws acc po nx
            apply Exists.intro
            apply And.intro
            · simp(disch:=omega)only[go_sem,K.aq,↓reduceIte,wg,li,k0,k1,tg,ho,tk,b0,b1,sg,st1,k4,k5,eg,sg2,lf2,bl2,e3,reduceAdd,reduceSub]
              subst fs
              rfl
            · rfl
           obtain⟨vs,f1,f2⟩:=fin
           exact⟨_,f1,by simp,.inr ⟨T'.set n true,_,_,vs,rfl,f2,tl1,nx,po⟩⟩
         · have fs:=zN (W:=W) (S:=S) (T:=T'.set n true) (G:=G) (n:=n) (by omega) hne i
           have gD:vl G n= .ref (3+rk G n) 0 (nth G n).length:=if_neg hne
           rw[gD]at eg
           have nx:=zP (G:=G) (n:=n) (by omega) hne (i:Int)
           have ka:(cL W S (T'.set n true) G)[3+rk G n]?=some (arA (nth G n)):=(tz W S (T'.set n true) G).hf n (by omega) hne
           rw[show arA (nth G n++[(i:Int)])= .arr 1 false 0 (ints (nth G n)++[D.t (Ev.T.int .i64 i)])by simp[arA,ints]]at fs
           have cb:=hc n
           have sx:∀X,(cL W S (T'.set n true) G).set (3+rk G n) X= .box [.t (.sl (W.map tL)),.t (tL S),.ref 2 0 G.length]:: .arr 1 false 0 (bls (T'.set n true)):: .arr 1 false 0 (esT G (fun n=>3+rk G n) G.length)::(aT G G G.length).set (rk G n) X:=fun X=>by
            rw[show 3+rk G n=rk G n+1+1+1 by omega];rfl
           have fin:∃vs,exS bV K.aq ⟨zM i j S.length (nth W i).length (nth W i),cL W S T' G⟩=some (.ret,⟨vs,eC W S (T'.set n true) (G.set n (nth G n++[(i:Int)])) (fK G) (aT G (G.set n (nth G n++[(i:Int)])) G.length++[])⟩)∧vs[3]?=some (B true):=by
            generalize eC W S (T'.set n true) (G.set n (nth G n++[(i:Int)])) (fK G) (aT G (G.set n (nth G n++[(i:Int)])) G.length++[])=K3 at*
            clear ih ws acc po nx
            apply Exists.intro
            apply And.intro
            · simp(disch:=omega)only[go_sem,K.aq,↓reduceIte,wg,li,k0,k1,tg,ho,tk,b0,b1,sg,st1,k4,k5,eg,sg2,lf2,bl2,e3,ka,sx,reduceAdd,reduceSub]
              subst fs
              rfl
            · rfl
           obtain⟨vs,f1,f2⟩:=fin
           exact⟨_,f1,by simp,.inr ⟨T'.set n true,_,_,vs,rfl,f2,tl1,nx,po⟩⟩
       · obtain⟨q,hq,hc2⟩:=Wi hW hS hG hc hi hnl hw et (T1:=T'.set n true) (fun m hm=>vn (by omega) hm) (tC (by omega)) tl1 (fun T2 h2 h3=>ih T2 h2 (by omega)) j (nth W i).length .und .und .und
         have lf2:=decide_eq_false hf
         have e3:=fU G (fun n=>3+rk G n) G.length
         have cb:=hc n
         rcases hc2 with⟨T2,rfl,tl2,acc2,lf3,ws2⟩ | ⟨T2,G2,x,vs,rfl,v3,tl2,nx,po⟩
         · left
           refine⟨⟨zM i (j+1) S.length (nth W i).length (nth W i),cL W S T2 G⟩,?_,T2,tl2,acc.trans (acc2.num (by omega) (by omega) ws2),by omega,fun q hq x hx hxe=>?_,rfl⟩
           · rw[cl]
             have ho4:=mU W S T2 G
             have tk4:(cL W S T2 G).take (3+rk G G.length)=cL W S T2 G:=List.take_of_length_le (by have:=fV W S T2 G;omega)
             generalize cL W S T2 G=K4 at*
             generalize cL W S (T'.set n true) G=K2 at*
             generalize cL W S T' G=K1 at*
             generalize 3+rk G G.length=kL at*
             generalize bls (T'.set n true)=Bs2 at*
             generalize bls T'=Bs at*
             clear ih ws acc acc2 ws2
             by_cases hne:nth G n=[]
             · have gD:vl G n= .nil:=if_pos hne
               rw[hne]at hf hq
               have hz:¬((0:Int)<nth S n):=hf
               rw[gD]at eg hq
               rw[List.length_nil,Int.natCast_zero]at hq
               simp(disch:=omega)only[go_sem,K.aq,↓reduceIte,wg,li,k0,k1,tg,ho,tk,b0,b1,sg,st1,k4,k5,eg,sg2,hz,bl2,hq,e3,ho4,tk4,reduceAdd,reduceSub]
               rfl
             · have gD:vl G n= .ref (3+rk G n) 0 (nth G n).length:=if_neg hne
               rw[gD]at eg hq
               simp(disch:=omega)only[go_sem,K.aq,↓reduceIte,wg,li,k0,k1,tg,ho,tk,b0,b1,sg,st1,k4,k5,eg,sg2,lf2,bl2,hq,e3,ho4,tk4,reduceAdd,reduceSub]
               rfl
           · by_cases e:q=j
             · subst e
               have:x=n:=by omega
               subst this;exact acc2.sub _ (tC (by omega))
             · exact acc2.sub _ (vn (by omega) (ws q (by omega) x hx hxe))
         · right
           have fin:exS bV K.aq ⟨zM i j S.length (nth W i).length (nth W i),cL W S T' G⟩=some (.ret,⟨vs,eC W S T2 G2 (fK G) (aT G G2 G.length++x)⟩):=by
            generalize eC W S T2 G2 (fK G) (aT G G2 G.length++x)=K4 at*
            generalize cL W S (T'.set n true) G=K2 at*
            generalize cL W S T' G=K1 at*
            generalize 3+rk G G.length=kL at*
            generalize bls (T'.set n true)=Bs2 at*
            generalize bls T'=Bs at*
            clear ih ws acc po nx
            by_cases hne:nth G n=[]
            · have gD:vl G n= .nil:=if_pos hne
              rw[hne]at hf hq
              have hz:¬((0:Int)<nth S n):=hf
              rw[gD]at eg hq
              rw[List.length_nil,Int.natCast_zero]at hq
              simp(disch:=omega)only[go_sem,K.aq,↓reduceIte,wg,li,k0,k1,tg,ho,tk,b0,b1,sg,st1,k4,k5,eg,sg2,hz,bl2,hq,e3,reduceAdd,reduceSub]
            · have gD:vl G n= .ref (3+rk G n) 0 (nth G n).length:=if_neg hne
              rw[gD]at eg hq
              simp(disch:=omega)only[go_sem,K.aq,↓reduceIte,wg,li,k0,k1,tg,ho,tk,b0,b1,sg,st1,k4,k5,eg,sg2,lf2,bl2,hq,e3,reduceAdd,reduceSub]
           exact⟨_,fin,by simp,.inr ⟨T2,G2,x,vs,rfl,v3,tl2,nx,po.mono acc.sub⟩⟩
   · rw[decide_eq_false cin]at li
     left
     refine⟨⟨zM i (j+1) S.length (nth W i).length (nth W i),cL W S T' G⟩,?_,T',tl',acc,lf,fun q hq x hx hxe=>?_,rfl⟩
     · have ho:=mU W S T' G
       have tk:(cL W S T' G).take (3+rk G G.length)=cL W S T' G:=List.take_of_length_le (by omega)
       have k0:(cL W S T' G)[0]?=some (.box [.t (.sl (W.map tL)),.t (tL S),.ref 2 0 G.length]):=rfl
       rw[cl]
       generalize cL W S T' G=K1 at*
       have k3:3≤3+rk G G.length:=by omega
       generalize 3+rk G G.length=kL at*
       have b0:ltB 0 kL=true:=by rw[df];simp;omega
       have b1:ltB 1 kL=true:=by rw[df];simp;omega
       clear ih ws acc
       simp(disch:=omega)only[go_sem,K.aq,↓reduceIte,wg,li,k0,ho,tk,b0,b1,reduceAdd,reduceSub]
       rfl
     · by_cases e:q=j
       · subst e;exact absurd ⟨by omega,by omega⟩ cin
       · exact ws q (by omega) x hx hxe
 · rintro st ⟨T',tl',acc,lf,ws,rfl⟩
   refine⟨(.exit 0,⟨zM i (nth W i).length S.length (nth W i).length (nth W i),cL W S T' G⟩),?_,by simp,.inl ⟨T',rfl,tl',⟨acc.sub,acc.clo,fun x hx hw=>?_⟩,lf⟩⟩
   · generalize cL W S T' G=K1
     simp(disch:=omega)only[go_sem,K.aq,↓reduceIte,reduceAdd,reduceSub]
   · rw[Int.toNat_natCast]at hw
     obtain⟨q,hq⟩:=aLf.1 hw
     have ql:=(aLe.1 hq).1
     exact ws q ql x hx (by have:=gq ql;rw[hq]at this;exact(Option.some.inj this))
theorem CW{W:List (List Int)}{S:List Int}{G:List (List Int)}(hW:W.length≤1000)(hS:S.length≤1000)(hG:GI W S G)(hc:∀n,(nth G n).length≤1000000)(hwl:∀i,(nth W i).length≤1000000):∀(k:Nat) (T:List Bool),left T≤k→T.length=S.length→∀i:Nat,i<W.length→
 ∃r,bV 0 N.ai [.bp 0 0,I i,.ref 1 0 S.length] (cL W S T G)=some (B r.1,r.2)∧CU W S G i T r:=by
 intro k
 induction k using Nat.strongRecOn with
 | ind k IH=>
   intro T hk tl i hi
   obtain⟨q,hq,hc2⟩:=Qu hW hS hG hc hwl hi tl (fun T2 h2 h3 o ho=>IH (left T2) (by omega) T2 (aLs _) h2 o ho) (B false) .und .und .und .und .und .und
   have k0:(cL W S T G)[0]?=some (.box [.t (.sl (W.map tL)),.t (tL S),.ref 2 0 G.length]):=rfl
   have wg:(W.map tL)[i]?=some (tL (nth W i)):=by
    unfold nth
    rw[aLn,aLc hi,aLl,aLc hi];rfl
   have cl:=fV W S T G
   have wb:=hwl i
   rcases hc2 with⟨T2,rfl,tl2,pn,lf⟩ | ⟨T2,G2,x,vs,rfl,v3,tl2,nx,po⟩
   · refine⟨(false,cL W S T2 G),bS K.ch rfl ?_,.inr ⟨T2,rfl,pn,by omega,lf⟩⟩
     have fn:=Qs (W:=W) (S:=S) (T:=T2) (G:=G)
     rw[cl]
     generalize cL W S T2 G=K2 at*
     generalize cL W S T G=K1 at*
     generalize 3+rk G G.length=kL at*
     clear IH
     simp(disch:=omega)only[go_sem,K.ai,↓reduceIte,k0,wg,hq,fn,reduceAdd,reduceSub]
   · refine⟨(true,eC W S T2 G2 (fK G) (aT G G2 G.length++x)),bS K.ch rfl ?_,.inl ⟨G2,T2,x,rfl,po,nx,by omega⟩⟩
     have fn:=Qt (W:=W) (S:=S) (T:=T2) (G:=G) (G2:=G2) (x:=x) (by have:=po.gi.len;have:=hG.len;omega) nx
     rw[cl]
     generalize eC W S T2 G2 (fK G) (aT G G2 G.length++x)=K2 at*
     generalize cL W S T G=K1 at*
     generalize 3+rk G G.length=kL at*
     clear IH
     simp(disch:=omega)only[go_sem,K.ai,↓reduceIte,k0,wg,hq,fn,v3,reduceAdd,reduceSub]
end Go.Ev
namespace Go.Ev
open Go
def Wj(s:Int):Int:=max 0 (min s 12)
def ET(S:List Int)(got:List Int)(x:Int):List Int:=if 0≤x∧x<S.length∧x∉got then got++[x]else got
def CY(S:List Int)(got:List Int)(l:List Int):List Int:=l.foldl (ET S) got
def rW(S:List Int)(got:List Int)(L:List (List Int)):List Int:=L.foldl (CY S) got
def qf(S:List Int)(got:List Int):Int:=(got.map fun x=>Wj (nth S x.toNat)).sum
def vo(S:List Int)(L:List (List Int)):Int:=(L.length:Int)-qf S (rW S [] L)
theorem vq{S got:List Int}{x y:Int}:y∈ET S got x↔y∈got∨(y=x∧0≤x∧x<S.length):=by
 unfold ET
 split
 · rename_i h
   rw[List.mem_append,List.mem_singleton]
   constructor
   · rintro (a | a)
     · exact .inl a
     · exact .inr ⟨a,h.1,h.2.1⟩
   · rintro (a | a)
     · exact .inl a
     · exact .inr a.1
 · rename_i h
   constructor
   · exact .inl
   · rintro (a | ⟨rfl,a,b⟩)
     · exact a
     · exact Classical.byContradiction fun n=>h ⟨a,b,n⟩
theorem zR{S got:List Int}{x:Int}(h:got.Nodup):(ET S got x).Nodup:=by
 unfold ET
 split
 · rename_i k
   rw[List.nodup_append]
   exact⟨h,by simp,fun a ha b hb e=>by rw[List.mem_singleton.1 hb]at e;subst e;exact k.2.2 ha⟩
 · exact h
theorem vr{S:List Int}{y:Int}:∀ {l got:List Int},y∈CY S got l↔y∈got∨(y∈l∧0≤y∧y<S.length)
 | [],got=>by simp[CY]
 | x::l,got=>by
   have ih:=vr (S:=S) (y:=y) (l:=l) (got:=ET S got x)
   rw[show CY S got (x::l)=CY S (ET S got x) l from rfl,ih,vq,List.mem_cons]
   constructor
   · rintro ((a | ⟨rfl,a,b⟩) | ⟨a,b⟩)
     · exact .inl a
     · exact .inr ⟨.inl rfl,a,b⟩
     · exact .inr ⟨.inr a,b⟩
   · rintro (a | ⟨rfl | a,b⟩)
     · exact .inl (.inl a)
     · exact .inl (.inr ⟨rfl,b⟩)
     · exact .inr ⟨a,b⟩
theorem zS{S:List Int}:∀ {l got:List Int},got.Nodup→(CY S got l).Nodup
 | [],got,h=>h
 | x::l,got,h=>zS (l:=l) (zR h)
theorem qg{S:List Int}{y:Int}:∀ {L:List (List Int)} {got:List Int},y∈rW S got L↔y∈got∨((∃l∈L,y∈l)∧0≤y∧y<S.length)
 | [],got=>by simp[rW]
 | x::l,got=>by
   have ih:=qg (S:=S) (y:=y) (L:=l) (got:=CY S got x)
   rw[show rW S got (x::l)=rW S (CY S got x) l from rfl,ih,vr]
   constructor
   · rintro ((a | ⟨a,b⟩) | ⟨⟨l2,a,b⟩,c⟩)
     · exact .inl a
     · exact .inr ⟨⟨x,List.mem_cons_self,a⟩,b⟩
     · exact .inr ⟨⟨l2,List.mem_cons_of_mem _ a,b⟩,c⟩
   · rintro (a | ⟨⟨l2,a,b⟩,c⟩)
     · exact .inl (.inl a)
     · rcases List.mem_cons.1 a with rfl | a
       · exact .inl (.inr ⟨b,c⟩)
       · exact .inr ⟨⟨l2,a,b⟩,c⟩
theorem zT{S:List Int}:∀ {L:List (List Int)} {got:List Int},got.Nodup→(rW S got L).Nodup
 | [],got,h=>h
 | x::l,got,h=>zT (L:=l) (zS h)
theorem tD{α:Type}{f g:α→Int}:∀ {l:List α},(∀x∈l,f x≤g x)→(l.map f).sum≤(l.map g).sum
 | [],_=>Int.le_refl _
 | x::l,h=>by
   have:=tD (l:=l) fun y hy=>h y (List.mem_cons_of_mem _ hy)
   have:=h x List.mem_cons_self
   simp only[List.map_cons,List.sum_cons];omega
theorem jQ{α β:Type}(f:α→List β):∀l:List α,((l.flatMap f).length:Int)=(l.map fun x=>((f x).length:Int)).sum
 | []=>rfl
 | x::l=>by
   simp only[List.flatMap_cons,aLv,List.map_cons,List.sum_cons,←jQ f l];omega
theorem kI{G:List (List Int)}{n:Nat}(h:¬n<G.length):nth G n=[]:=by
 unfold nth
 rw[aLl,aLm (by omega)];rfl
theorem AN.EU{W:List (List Int)}{S:List Int}{G:List (List Int)}(h:AN W S G)(n:Nat):(nth G n).length≤W.length:=by
 by_cases l:n<G.length
 · have gl:=h.len
   have nd:(nth G n).Nodup:=by
    have e:G=G.take n++nth G n::G.drop (n+1):=by
     have:nth G n=G[n]:=by unfold nth;rw[aLl,aLc l];rfl
     rw[this,←List.drop_eq_getElem_cons l,List.take_append_drop]
    have:=h.nd
    rw[du,e]at this
    simp only[List.flatten_append,List.flatten_cons]at this
    exact(List.nodup_append.1 (List.nodup_append.1 this).2.1).1
   have key:=bD (b:=(List.range W.length).map fun(i:Nat)=>(i:Int)) nd fun x hx=>by
    obtain⟨a,b, -⟩:=h.wnt n (by omega) x hx
    exact List.mem_map.2 ⟨x.toNat,aLu.2 (by omega),by omega⟩
   simpa using key
 · rw[kI l];exact Nat.zero_le _
abbrev aO(W:List (List Int))(X:List Nat):List (List Int):=X.map fun i=>nth W i
theorem vt{X:List Nat}(h:X.Nodup):(X.map fun(i:Nat)=>(i:Int)).Nodup:=by
 rw[List.Nodup,List.pairwise_map]
 exact h.imp fun{a b} k e=>k (by omega)
theorem zU{W:List (List Int)}{S:List Int}{G:List (List Int)}(h:AN W S G)(hW:W.length≤12){X:List Nat}(nd:X.Nodup)(hX:∀i∈X,i<W.length):(((gA G).length:Nat):Int)+vo S (aO W X)≤W.length:=by
 classical
 have gl:=h.len
 have hg:∀y,y∈rW S [] (aO W X)↔((∃l∈aO W X,y∈l)∧0≤y∧y<S.length):=fun y=>by rw[qg];simp
 have e:(vo S (aO W X))=(X.length:Int)-qf S (rW S [] (aO W X)):=by unfold vo aO;rw[List.length_map]
 rw[e]
 generalize rW S [] (aO W X)=got at*
 have sp:=kB (fun n=>(n:Int)∈got) G G.length
 have ndU:=(h.nd.sublist (by unfold gA;exact uI (fun n=>(n:Int)∈got) G G.length))
 have ndN:=(h.nd.sublist (by unfold gA;exact uI (fun n=>¬(n:Int)∈got) G G.length))
 have a1:((LU (fun n=>(n:Int)∈got) G G.length).length:Int)≤qf S got:=by
  have k1:=bD (b:=got.flatMap fun x=>nth G x.toNat) ndU fun i hi=>by
   obtain⟨n,hn,hu,hm⟩:=gY.1 hi
   exact List.mem_flatMap.2 ⟨_,hu,by rw[Int.toNat_natCast];exact hm⟩
  have k2:=jQ (fun x:Int=>nth G x.toNat) got
  have k3:(got.map fun x=>((nth G x.toNat).length:Int)).sum≤qf S got:=tD fun x hx=>by
   obtain⟨-,x0,x1⟩:=(hg x).1 hx
   unfold Wj
   by_cases en:nth G x.toNat=[]
   · rw[en];simp only[List.length_nil];omega
   · have:=h.cap _ (by omega) en
     have:=h.EU x.toNat
     omega
  omega
 have a2:(LU (fun n=>¬(n:Int)∈got) G G.length).length+X.length≤W.length:=by
  have k1:=bD (a:=LU (fun n=>¬(n:Int)∈got) G G.length++X.map fun(i:Nat)=>(i:Int)) (b:=(List.range W.length).map fun(i:Nat)=>(i:Int)) (by
   rw[List.nodup_append]
   refine⟨ndN,vt nd,fun a ha b hb e=>?_⟩
   subst e
   obtain⟨n,hn,hu,hm⟩:=gY.1 ha
   obtain⟨i,hi,rfl⟩:=List.mem_map.1 hb
   obtain⟨w1,w2,w3⟩:=h.wnt n (by omega) _ hm
   rw[Int.toNat_natCast]at w3
   exact hu ((hg _).2 ⟨⟨_,List.mem_map.2 ⟨i,hi,rfl⟩,w3⟩,by omega,by omega⟩)) (fun x hx=>by
   rcases List.mem_append.1 hx with k | k
   · obtain⟨n,hn,hu,hm⟩:=gY.1 k
     obtain⟨w1,w2,w3⟩:=h.wnt n (by omega) _ hm
     exact List.mem_map.2 ⟨x.toNat,aLu.2 (by omega),by omega⟩
   · obtain⟨i,hi,rfl⟩:=List.mem_map.1 k
     exact List.mem_map.2 ⟨i,aLu.2 (hX i hi),rfl⟩)
  simpa using k1
 unfold gA
 omega
open Classical in
theorem MI.YS{W:List (List Int)}{S:List Int}{G:List (List Int)}{c:Nat}{U:Nat→Prop}(h:MI W S G W.length c U)(hW:W.length≤12):(W.length:Int)≤c+vo S (aO W ((List.range W.length).filter fun i=>pZ W S i U)):=by
 have gl:=h.st.len
 generalize hX:(List.range W.length).filter (fun i:Nat=>decide (pZ W S i U))=X
 have mX:∀i,i∈X↔(i<W.length∧pZ W S i U):=fun i=>by subst hX;rw[List.mem_filter,aLu,decide_eq_true_iff]
 have hg:∀y,y∈rW S [] (aO W X)↔((∃l∈aO W X,y∈l)∧0≤y∧y<S.length):=fun y=>by rw[qg];simp
 have ng:(rW S [] (aO W X)).Nodup:=zT (by simp)
 have e:(vo S (aO W X))=(X.length:Int)-qf S (rW S [] (aO W X)):=by unfold vo aO;rw[List.length_map]
 rw[e]
 generalize rW S [] (aO W X)=got at*
 have gU:∀x∈got,0≤x∧x.toNat<S.length∧U x.toNat:=fun x hx=>by
  obtain⟨⟨l,hl,hm⟩,x0,x1⟩:=(hg x).1 hx
  obtain⟨i,hi,rfl⟩:=List.mem_map.1 hl
  exact⟨x0,by omega,((mX i).1 hi).2 x.toNat (by omega) (by rw[Int.toNat_of_nonneg x0,Int.toNat_natCast];exact hm)⟩
 have sp:=kB U G G.length
 have a1:qf S got≤((LU U G G.length).length:Int):=by
  have k1:=bD (a:=got.flatMap fun x=>nth G x.toNat) (b:=LU U G G.length) (by
   rw[List.Nodup,List.pairwise_flatMap]
   have pf:=h.st.nd
   rw[du,List.Nodup,List.pairwise_flatten]at pf
   refine⟨fun x hx=>?_,ng.imp_of_mem fun{x y} hx hy hne a ha b hb e=>?_⟩
   · exact pf.1 _ (by
      have l:x.toNat<G.length:=by have:=(gU x hx).2.1;omega
      unfold nth
      rw[aLl,aLc l]
      exact List.getElem_mem l)
   · subst e
     obtain⟨x0,xl, -⟩:=gU x hx
     obtain⟨y0,yl, -⟩:=gU y hy
     have ga:∀n,n<G.length→G[n]?=some (nth G n):=fun n l=>by
      unfold nth
      rw[aLl,aLc l];rfl
     have pp:=List.pairwise_iff_getElem.1 pf.2
     have gx:=ga x.toNat (by omega)
     have gy:=ga y.toNat (by omega)
     rw[aLc (by omega),Option.some_inj]at gx gy
     rcases Nat.lt_trichotomy x.toNat y.toNat with k | k | k
     · exact pp x.toNat y.toNat (by omega) (by omega) k a (by rw[gx];exact ha) a (by rw[gy];exact hb) rfl
     · exact hne (by omega)
     · exact pp y.toNat x.toNat (by omega) (by omega) k a (by rw[gy];exact hb) a (by rw[gx];exact ha) rfl) fun i hi=>by
   obtain⟨x,hx,hm⟩:=List.mem_flatMap.1 hi
   obtain⟨x0,xl,xu⟩:=gU x hx
   exact gY.2 ⟨_,by omega,xu,hm⟩
  have k2:=jQ (fun x:Int=>nth G x.toNat) got
  have k3:qf S got≤(got.map fun x=>((nth G x.toNat).length:Int)).sum:=tD fun x hx=>by
   obtain⟨x0,xl,xu⟩:=gU x hx
   have:=(h.clo _ xl xu).1
   unfold Wj
   omega
  omega
 have a2:W.length≤(LU (fun n=>¬U n) G G.length).length+X.length:=by
  have k1:=bD (a:=(List.range W.length).map fun(i:Nat)=>(i:Int)) (b:=LU (fun n=>¬U n) G G.length++X.map fun(i:Nat)=>(i:Int)) (vt List.nodup_range) fun x hx=>by
   obtain⟨i,hi,rfl⟩:=List.mem_map.1 hx
   have hi:=aLu.1 hi
   have inX:pZ W S i U→(i:Int)∈LU (fun n=>¬U n) G G.length++X.map fun(i:Nat)=>(i:Int):=fun k=>
    List.mem_append.2 (.inr (List.mem_map.2 ⟨i,(mX i).2 ⟨hi,k⟩,rfl⟩))
   rcases h.out i hi with k | k
   · obtain⟨n,hn, -,hm⟩:=gY.1 k
     by_cases u:U n
     · exact inX ((h.clo n (by omega) u).2 _ hm)
     · exact List.mem_append.2 (.inl (gY.2 ⟨n,hn,u,hm⟩))
   · exact inX k
  simpa using k1
 have hc:=h.cnt
 unfold gA at hc
 omega
def EW(s i:Nat):Bool:=decide (s / 2 ^ i % 2=1)
def lL(n s:Nat):List Nat:=(List.range n).filter (EW s)
def oy(W:List (List Int))(S:List Int):Nat→Int
 | 0=>0
 | j+1=>max (oy W S j) (vo S (aO W (lL W.length (j+1))))
def cQ(W:List (List Int))(S:List Int):Int:=(W.length:Int)-oy W S (2 ^ W.length-1)
theorem qh(W:List (List Int))(S:List Int):∀j,0≤oy W S j
 | 0=>Int.le_refl _
 | j+1=>by have:=qh W S j;rw[oy];omega
theorem vu(W:List (List Int))(S:List Int){s:Nat}(h0:0<s):∀ {j},s≤j→vo S (aO W (lL W.length s))≤oy W S j
 | 0,h=>by omega
 | j+1,h=>by
   rw[oy]
   by_cases e:s=j+1
   · subst e;omega
   · have:=vu W S h0 (j:=j) (by omega);omega
theorem qi{W:List (List Int)}{S:List Int}{b:Int}(hb:0≤b)(h:∀s,vo S (aO W (lL W.length s))≤b):∀j,oy W S j≤b
 | 0=>hb
 | j+1=>by have:=qi hb h j;have:=h (j+1);rw[oy];omega
theorem zV(p:Nat→Bool):∀n,∃s,s<2 ^ n∧∀i,i<n→EW s i=p i
 | 0=>⟨0,by simp,fun i h=>by omega⟩
 | n+1=>by
   obtain⟨s,a,b⟩:=zV p n
   have pw:2 ^ (n+1)=2 ^ n*2:=Nat.pow_succ ..
   have lowb:∀i,i<n→EW (s+2 ^ n) i=EW s i:=fun i hi=>by
    obtain⟨k,hk⟩:∃k,n=i+1+k:=⟨n-(i+1),by omega⟩
    unfold EW
    have e:2 ^ n=2 ^ i*(2*2 ^ k):=by rw[hk,Nat.pow_add,Nat.pow_succ,Nat.mul_assoc]
    rw[e,Nat.add_mul_div_left _ _ (Nat.two_pow_pos i),Nat.add_mod,Nat.mul_mod_right]
    simp
   cases hp:p n with
   | false=>
     refine⟨s,by omega,fun i hi=>?_⟩
     by_cases e:i=n
     · subst e
       rw[hp]
       unfold EW
       rw[Nat.div_eq_of_lt a];rfl
     · exact b i (by omega)
   | true=>
     refine⟨s+2 ^ n,by omega,fun i hi=>?_⟩
     by_cases e:i=n
     · subst e
       rw[hp]
       unfold EW
       rw[Nat.add_div_right _ (Nat.two_pow_pos _),Nat.div_eq_of_lt a];rfl
     · rw[lowb i (by omega)];exact b i (by omega)
theorem vv(n s:Nat):(lL n s).Nodup:=List.nodup_range.filter _
theorem kJ{n s i:Nat}(h:i∈lL n s):i<n:=aLu.1 (List.mem_filter.1 h).1
theorem tE(p:Nat→Bool)(n:Nat):∃s,s<2 ^ n∧(List.range n).filter p=lL n s:=by
 obtain⟨s,a,b⟩:=zV p n
 exact⟨s,a,List.filter_congr fun i hi=>(b i (aLu.1 hi)).symm⟩
theorem pb(n:Nat):lL n 0=[]:=by
 unfold lL
 rw[List.filter_eq_nil_iff]
 intro i _
 simp[EW]
theorem MI.cQ{W:List (List Int)}{S:List Int}{G:List (List Int)}{c:Nat}{U:Nat→Prop}(h:MI W S G W.length c U)(hW:W.length≤12):(c:Int)=cQ W S:=by
 classical
 have l1:=h.YS hW
 obtain⟨s,s1,s2⟩:=tE (fun i=>decide (pZ W S i U)) W.length
 have up:∀s,vo S (aO W (lL W.length s))≤W.length-c:=fun s=>by
  have:=zU h.st hW (vv W.length s) fun i hi=>kJ hi
  rw[h.cnt]at this;omega
 have hc:(c:Int)≤W.length:=by
  have:=up 0
  rw[pb]at this
  simp only[vo,aO,List.map_nil,List.length_nil,rW,List.foldl_nil,qf,List.sum_nil]at this
  omega
 have e:((List.range W.length).filter fun i:Nat=>@decide (pZ W S i U) (Classical.propDecidable _))=lL W.length s:=by
  rw[← s2]
 unfold Ev.cQ
 have lo:=qi (by omega) up (2 ^ W.length-1)
 have l2:(W.length:Int)≤c+vo S (aO W (lL W.length s)):=by rw[← e];exact l1
 by_cases z:s=0
 · subst z
   have nn:=qh W S (2 ^ W.length-1)
   rw[pb]at l2
   simp only[vo,aO,List.map_nil,List.length_nil,rW,List.foldl_nil,qf,List.sum_nil]at l2
   omega
 · have:=vu W S (s:=s) (by omega) (j:=2 ^ W.length-1) (by omega)
   omega
end Go.Ev
namespace Go.Ev
open Go
variable [Lib] [aL] [aN] [bF] [bJ] [cT] [bL] [bM] [cC] [cA] [aZ] [a7] [bX] [bY] [eK] [dy]
theorem EX{α:Type}:∀ {sel:List Nat} {l os:List α},(aD l sel os).length=l.length
 | [],l,os=>by simp[aD]
 | a::sel,l,[]=>by simp[aD]
 | a::sel,l,o::os=>by rw[aD,EX];simp
theorem EY{α:Type}:∀ {sel:List Nat} {l os:List α} {i:Nat},i∉sel→(aD l sel os)[i]?=l[i]?
 | [],l,os,i,_=>by simp[aD]
 | a::sel,l,[],i,_=>by simp[aD]
 | a::sel,l,o::os,i,h=>by
   simp only[List.mem_cons,not_or]at h
   rw[aD,EY h.2,aLi (fun e=>h.1 e.symm)]
theorem Qv{α:Type}:∀ {sel:List Nat} {l os:List α} {i j:Nat},sel.Nodup→os.length=sel.length→sel[j]?=some i→i<l.length→(aD l sel os)[i]?=os[j]?
 | [],l,os,i,j,_,_,h,_=>by simp at h
 | a::sel,l,[],i,j,_,hl,_,_=>by simp at hl
 | a::sel,l,o::os,i,j,hn,hl,hj,hi=>by
   simp only[List.nodup_cons]at hn
   rw[aD]
   cases j with
   | zero=>
     simp at hj;subst hj
     rw[EY hn.1,aLj hi];rfl
   | succ j=>
     simp at hj hl
     rw[Qv hn.2 hl hj (by simpa using hi)];rfl
structure JA(K:ab)(b g:Nat)(f:Nat→Nat)(W:List (List Int))(S:List Int)(G:List (List Int)):Prop where
 hb:K[b]?=some (.box [.t (.sl (W.map tL)),.t (tL S),.ref g 0 G.length])
 hg:K[g]?=some (.arr 1 false 0 (esT G f G.length))
 hf:∀n,n<G.length→nth G n≠[]→K[f n]?=some (arA (nth G n))
 bg:b≠g
 inj:∀n m,n<G.length→m<G.length→nth G n≠[]→nth G m≠[]→f n=f m→n=m
 fb:∀n,n<G.length→nth G n≠[]→f n≠b∧f n≠g
theorem tF{α:Type}{K:List α}{i:Nat}{o:α}(h:K[i]?=some o):i<K.length:=(aLe.1 h).1
theorem EZ{G:List (List Int)}{f:Nat→Nat}:∀m,(∀n k,n<m→k<m→nth G n≠[]→nth G k≠[]→f n=f k→n=k)→(idT G f m).Nodup
 | 0,_=>by simp[idT]
 | m+1,h=>by
   rw[idT]
   refine List.nodup_append.2 ⟨EZ m fun n k hn hk=>h n k (by omega) (by omega),by split<;>simp,fun a ha c hc=>?_⟩
   split at hc
   · simp at hc
   · rename_i hm
     rw[List.mem_singleton.1 hc]
     obtain⟨n,hn,hne,rfl⟩:=lK.1 ha
     intro e
     have:=h n m (by omega) (by omega) hne hm e
     omega
theorem tG{K:ab}{i:Nat}{o:Obj}(h:K[i]?=some o)(x:ab):(K++x)[i]?=some o:=by
 rw[aLg (tF h)];exact h
theorem Qw{l:List Nat}(h:l.Nodup){i j a:Nat}(hi:l[i]?=some a)(hj:l[j]?=some a):i=j:=by
 have li:=tF hi
 have lj:=tF hj
 rw[aLc li]at hi
 rw[aLc lj]at hj
 have e:=Option.some.inj (hi.trans hj.symm)
 rcases Nat.lt_trichotomy i j with k | k | k
 · exact absurd e (List.pairwise_iff_getElem.1 h i j li lj k)
 · exact k
 · exact absurd e.symm (List.pairwise_iff_getElem.1 h j i lj li k)
theorem JA.rep{K:ab}{b g:Nat}{f:Nat→Nat}{W:List (List Int)}{S:List Int}{G:List (List Int)}(h:JA K b g f W S G)(T:List Bool):rV (K++[.arr 1 false 0 (bls T)]) b K.length g f W S T G where
 hb:=tG h.hb _
 hq:=by rw[aLh (aLs _),Nat.sub_self];rfl
 hg:=tG h.hg _
 hf n hn hne:=tG (h.hf n hn hne) _
 nd:=by
  have lb:=tF h.hb
  have lg:=tF h.hg
  have bg:=h.bg
  have nf:∀x,(∀n,n<G.length→nth G n≠[]→f n≠x)→x∉idT G f G.length:=fun x hx hm=>by
   obtain⟨n,a,c,e⟩:=lK.1 hm
   exact hx n a c e.symm
  have n1:=nf b fun n hn hne=>(h.fb n hn hne).1
  have n2:=nf g fun n hn hne=>(h.fb n hn hne).2
  have n3:=nf K.length fun n hn hne e=>by
   have:=tF (h.hf n hn hne)
   omega
  have nd:=EZ G.length h.inj
  simp only[List.cons_append,List.nil_append,List.nodup_cons,List.mem_cons,not_or]
  exact⟨⟨by omega,bg,n1⟩,⟨by omega,n3⟩,n2,nd⟩
def f2K(K:ab)(G:List (List Int))(f:Nat→Nat)(n:Nat):Nat:=if nth G n=[]then K.length else f n
theorem zW(b q g:Nat)(G:List (List Int))(f:Nat→Nat):([b,q,g]++idT G f G.length).length=3+rk G G.length:=by
 rw[aLv,lI];rfl
theorem rB{K:ab}{b q g:Nat}{f:Nat→Nat}{W:List (List Int)}{S:List Int}{T T2:List Bool}{G G2:List (List Int)}{x:ab}(h:rV K b q g f W S T G)(gl:G2.length=G.length)(hx:vj G G2 x)(r:Bool):
 fD K K ([b,q,g]++idT G f G.length) (B r,eC W S T2 G2 (fK G) (aT G G2 G.length++x))=some (B r,aD K ([b,q,g]++idT G f G.length) ([.box [.t (.sl (W.map tL)),.t (tL S),.ref g 0 G2.length],.arr 1 false 0 (bls T2),.arr 1 false 0 (esT G2 (f2K K G f) G2.length)]++aT G G2 G.length)++x):=by
 have sl:=zW b q g G f
 generalize hsel:[b,q,g]++idT G f G.length=sel at*
 have bk:∀i,i<3+rk G G.length→aR sel K.length i=sel[i]?:=fun i hi=>by unfold aR;rw[if_pos (by omega)]
 have bn:aR sel K.length (3+rk G G.length)=some K.length:=by unfold aR;rw[if_neg (by omega),sl];simp
 have s2:aR sel K.length 2=some g:=by rw[bk 2 (by omega),←hsel];rfl
 have e:fD K K sel (B r,eC W S T2 G2 (fK G) (aT G G2 G.length++x))=(ren (aR sel K.length) depth (B r)).bind fun r'=>(aE (aX (aR sel K.length)) (eC W S T2 G2 (fK G) (aT G G2 G.length++x))).map fun os=>(r',aD K sel (os.take sel.length)++os.drop sel.length):=by
  unfold fD
  have:sel.isEmpty=false:=by
   rw[← hsel];rfl
  simp only[this,Bool.false_and,aLt,if_false]
  rfl
 have fk:∀n,n<G.length→nth G2 n≠[]→aR sel K.length (fK G n)=some (f2K K G f n):=fun n hn hne=>by
  unfold fK f2K
  by_cases c:nth G n=[]
  · rw[if_pos c,if_pos c];exact bn
  · rw[if_neg c,if_neg c]
    have:=nX G (n:=n) (m:=G.length) hn c
    rw[bk _ (by omega),←hsel]
    exact h.tx hn c
 have e1:aE (ren (aR sel K.length) 8) (esT G2 (fK G) G2.length)=some (esT G2 (f2K K G f) G2.length):=nY (u:=aR sel K.length) (f2:=f2K K G f) G2.length (fun n hn hne=>fk n (by omega) hne)
 have e2:aE (ren (aR sel K.length) 8) (bls T2)=some (bls T2):=gM _ _
 have e3:aE (aX (aR sel K.length)) (aT G G2 G.length++x)=some (aT G G2 G.length++x):=by
  refine pY fun o ho=>?_
  obtain⟨l,rfl⟩:=vk hx o ho
  simp only[aX,ints,gM,aLw]
 have e4:aE (aX (aR sel K.length)) (eC W S T2 G2 (fK G) (aT G G2 G.length++x))=some (.box [.t (.sl (W.map tL)),.t (tL S),.ref g 0 G2.length]:: .arr 1 false 0 (bls T2):: .arr 1 false 0 (esT G2 (f2K K G f) G2.length)::(aT G G2 G.length++x)):=by
  simp only[eC,aE,aX,ren,depth,s2,aLw,aLq]
  rw[e1,e2,e3];rfl
 rw[e,e4]
 simp only[ren,depth,aLq,aLw,sl]
 have al:=fy G G2 G.length
 have t1:∀(A B C:Obj),(A::B::C::(aT G G2 G.length++x)).take (3+rk G G.length)=[A,B,C]++aT G G2 G.length:=fun A B C=>by
  rw[show A::B::C::(aT G G2 G.length++x)=([A,B,C]++aT G G2 G.length)++x by simp]
  rw[List.take_left' (by rw[aLv,al];rfl)]
 have t2:∀(A B C:Obj),(A::B::C::(aT G G2 G.length++x)).drop (3+rk G G.length)=x:=fun A B C=>by
  rw[show A::B::C::(aT G G2 G.length++x)=([A,B,C]++aT G G2 G.length)++x by simp]
  rw[List.drop_left' (by rw[aLv,al];rfl)]
 rw[t1,t2]
theorem nZ{K:ab}{b q g:Nat}{f:Nat→Nat}{W:List (List Int)}{S:List Int}{T T2:List Bool}{G G2:List (List Int)}{x:ab}(h:rV K b q g f W S T G)(gl:G2.length=G.length)(hx:vj G G2 x):
 JA (aD K ([b,q,g]++idT G f G.length) ([.box [.t (.sl (W.map tL)),.t (tL S),.ref g 0 G2.length],.arr 1 false 0 (bls T2),.arr 1 false 0 (esT G2 (f2K K G f) G2.length)]++aT G G2 G.length)++x) b g (f2K K G f) W S G2:=by
 have nd:=h.nd
 have al:=fy G G2 G.length
 have sl:=zW b q g G f
 have il:=lI G f G.length
 have pl:∀os,(aD K ([b,q,g]++idT G f G.length) os).length=K.length:=fun os=>EX
 have nf:∀n,n<G.length→nth G n≠[]→f n≠b∧f n≠g:=fun n hn hne=>by
  have m:f n∈idT G f G.length:=lK.2 ⟨n,hn,hne,rfl⟩
  have:=(List.nodup_append.1 nd).2.2
  exact⟨fun e=>this b (by simp) (f n) m e.symm,fun e=>this g (by simp) (f n) m e.symm⟩
 have inj:∀n m,n<G.length→m<G.length→nth G n≠[]→nth G m≠[]→f n=f m→n=m:=fun n m hn hm h1 h2 e=>by
  have n2:=(List.nodup_append.1 nd).2.1
  have a:=p8 G f h1 _ hn
  have c:=p8 G f h2 _ hm
  rw[e]at a
  have:rk G n=rk G m:=by
   have la:=tF a
   have lc:=tF c
   exact Qw n2 a c
  rcases Nat.lt_trichotomy n m with k | k | k
  · have:=nX G k h1;omega
  · exact k
  · have:=nX G k h2;omega
 have ol:∀A B C:Obj,([A,B,C]++aT G G2 G.length).length=([b,q,g]++idT G f G.length).length:=fun A B C=>by
  rw[sl,aLv,al];rfl
 have at_:∀(A B C:Obj) (j i:Nat) (o:Obj),([b,q,g]++idT G f G.length)[j]?=some i→i<K.length→([A,B,C]++aT G G2 G.length)[j]?=some o→(aD K ([b,q,g]++idT G f G.length) ([A,B,C]++aT G G2 G.length)++x)[i]?=some o:=fun A B C j i o hj hi ho=>by
  rw[aLg (by rw[pl];exact hi),Qv nd (ol A B C) hj hi];exact ho
 refine⟨at_ _ _ _ 0 b _ rfl (tF h.hb) rfl,at_ _ _ _ 2 g _ rfl (tF h.hg) rfl,fun n hn hne=>?_,?_,fun n m hn hm h1 h2 e=>?_,fun n hn hne=>?_⟩
 · unfold f2K
   by_cases c:nth G n=[]
   · rw[if_pos c,aLh (by rw[pl];exact aLs _),pl,Nat.sub_self]
     rcases hx.new with⟨_,e⟩ | ⟨n0,_,_,_,e,k⟩
     · exact absurd (e n c) hne
     · by_cases d:n=n0
       · subst d;rw[e];rfl
       · exact absurd (k n d c) hne
   · rw[if_neg c]
     refine at_ _ _ _ (3+rk G n) (f n) _ (h.tx (by omega) c) (tF (h.hf n (by omega) c)) ?_
     rw[aLh (by simp),show 3+rk G n-[_,_,_].length=rk G n by simp]
     exact vf G G2 c _ (by omega)
 · intro e
   have:([b,q,g]:List Nat).Nodup:=(List.nodup_append.1 nd).1
   simp at this
   omega
 · unfold f2K at e
   have one:∀n,n<G2.length→nth G2 n≠[]→nth G n=[]→∀m,m<G2.length→nth G2 m≠[]→nth G m=[]→n=m:=fun n hn hne hne2 m hm hme hme2=>by
    rcases hx.new with⟨_,e⟩ | ⟨n0,_,_,_,e,k⟩
    · exact absurd (e n hne2) hne
    · have a:n=n0:=Classical.byContradiction fun d=>hne (k n d hne2)
      have c:m=n0:=Classical.byContradiction fun d=>hme (k m d hme2)
      omega
   by_cases c:nth G n=[]<;>by_cases d:nth G m=[]
   · exact one n hn h1 c m hm h2 d
   · rw[if_pos c,if_neg d]at e
     have:=tF (h.hf m (by omega) d);omega
   · rw[if_neg c,if_pos d]at e
     have:=tF (h.hf n (by omega) c);omega
   · rw[if_neg c,if_neg d]at e
     exact inj n m (by omega) (by omega) c d e
 · unfold f2K
   by_cases c:nth G n=[]
   · rw[if_pos c]
     have:=tF h.hb
     have:=tF h.hg
     omega
   · rw[if_neg c];exact nf n (by omega) c
theorem vj.refl(G:List (List Int)):vj G G []:=⟨fun _ h=>h,.inl ⟨rfl,fun _ h=>h⟩⟩
theorem CZ(n:Nat):left (List.replicate n false)=n:=by simp[left]
theorem zX{K:ab}{b g:Nat}{f:Nat→Nat}{W:List (List Int)}{S:List Int}{G:List (List Int)}(h:JA K b g f W S G)(hW:W.length≤1000)(hS:S.length≤1000)(hwl:∀i,(nth W i).length≤1000000){i c:Nat}(hi:i<W.length){U:Nat→Prop}(mi:MI W S G i c U):
 ∃r K2 f2 G2 U2,yC (K++[.arr 1 false 0 (bls (List.replicate S.length false))]) bV N.ai 0 [2] [.bp b 0,I i,.ref K.length 0 S.length]=some (B r,K2)∧JA K2 b g f2 W S G2∧MI W S G2 (i+1) (if r then c+1 else c) U2:=by
 have hG:=mi.st.toGI
 have hc:∀n,(nth G n).length≤1000000:=fun n=>by have:=mi.st.EU n;omega
 have rt:=h.rep (List.replicate S.length false)
 obtain⟨r,hr,dn⟩:=CW hW hS hG hc hwl S.length (List.replicate S.length false) (by rw[CZ];exact aLs _) (by simp) i hi
 have t0:∀n,Tb (List.replicate S.length false) n=false:=fun n=>by
  show nth _ _=_
  unfold nth
  rw[aLl,List.getElem?_replicate]
  split<;>rfl
 rcases dn with⟨G2,T2,x,rfl,po,nx,_⟩ | ⟨T2,rfl,pn,_,_⟩
 · refine⟨true,_,_,G2,U,?_,nZ (T2:=T2) rt (by rw[po.gi.len,hG.len]) nx,mi.ok po⟩
   rw[rt.call i S.length,hr,aLq]
   exact rB (T2:=T2) rt (by rw[po.gi.len,hG.len]) nx true
 · refine⟨false,_,_,G,fun n=>U n∨Tb T2 n=true,?_,nZ (T2:=T2) rt rfl (vj.refl G),mi.no t0 pn⟩
   rw[rt.call i S.length,hr,aLq]
   have:=rB (T2:=T2) rt rfl (vj.refl G) false
   rw[← this]
   have e1:esT G (fun n=>3+rk G n) G.length=esT G (fK G) G.length:=kH _ fun n hn=>⟨Iff.rfl,fun hne=>⟨by unfold fK;rw[if_neg hne],rfl⟩⟩
   simp only[cL,eC,e1,List.append_nil]
theorem mV(n m:Nat):nth (List.replicate n ([]:List Int)) m=[]:=by
 unfold nth
 rw[aLl,List.getElem?_replicate]
 split<;>rfl
theorem vw(n:Nat)(f:Nat→Nat):∀m,esT (List.replicate n []) f m=List.replicate m .nil
 | 0=>rfl
 | m+1=>by
   rw[esT,vw n f m,mV,if_pos rfl,List.replicate_succ']
theorem zY(W:List (List Int))(S:List Int):JA [.arr 1 false 0 (List.replicate S.length .nil),.box [.t (.sl (W.map tL)),.t (tL S),.ref 0 0 S.length]] 1 0 (fun _=>0) W S (List.replicate S.length []) where
 hb:=by rw[List.length_replicate];rfl
 hg:=by rw[vw,List.length_replicate];rfl
 hf n hn hne:=absurd (mV _ _) hne
 bg:=by omega
 inj n m _ _ hne:=absurd (mV _ _) hne
 fb n _ hne:=absurd (mV _ _) hne
theorem C0{W:List (List Int)}{S:List Int}(hW:W.length≤1000)(hS:S.length≤1000)(hwl:∀i,(nth W i).length≤1000000):
 ∃c:Nat,bV 0 N.aS [.t (.sl (W.map tL)),.t (tL S)] []=some (I c,[])∧(∃(G:List (List Int)) (U:Nat→Prop),MI W S G W.length c U)∧c≤W.length:=by
 have loop:∃q,exS bV K.jz ⟨[.t (.sl (W.map tL)),.t (tL S),I 0,.bp 1 0,I 0,.und,I W.length,I 0],[.arr 1 false 0 (List.replicate S.length .nil),.box [.t (.sl (W.map tL)),.t (tL S),.ref 0 0 S.length]]⟩=some q∧
  ∃(c:Nat) (J:ab),q=(.exit 0,⟨[.und,.t (tL S),.und,.bp 1 0,I c,.und,I W.length,I W.length],J⟩)∧(∃(G:List (List Int)) (U:Nat→Prop),MI W S G W.length c U)∧c≤W.length:=by
  refine yY (fun j st=>∃(c:Nat) (J:ab) (f:Nat→Nat) (G:List (List Int)) (U:Nat→Prop),JA J 1 0 f W S G∧MI W S G j c U∧c≤j∧st=⟨[.und,.t (tL S),.und,.bp 1 0,I c,.und,I W.length,I j],J⟩) W.length _ ⟨0,_,_,_,_,zY W S,MI.zero W S,aLs _,by simp only[go_sem,Int.natCast_zero]⟩ ?_ ?_
  · rintro j st hj ⟨c,J,f,G,U,rg,mi,cj,rfl⟩
    left
    obtain⟨r,J2,f2,G2,U2,oc,rg2,mi2⟩:=zX rg hW hS hwl hj mi
    refine⟨⟨[.und,.t (tL S),.und,.bp 1 0,I ((if r then c+1 else c:Nat):Int),.und,I W.length,I (j+1:Nat)],J2⟩,?_,_,J2,f2,G2,U2,rg2,mi2,by split<;>omega,rfl⟩
    rw[show bls (List.replicate S.length false)=List.replicate S.length (.t (.bool false))by simp[bls]]at oc
    have k0:=rg.hb
    clear rg rg2 mi mi2
    generalize W.length=wl at*
    cases r with
    | true=>
      simp(disch:=omega)only[go_sem,K.dS,↓reduceIte,oc,reduceAdd,reduceSub]
    | false=>
      simp(disch:=omega)only[go_sem,K.dS,↓reduceIte,oc,reduceAdd,reduceSub]
  · rintro st ⟨c,J,f,G,U,rg,mi,cj,rfl⟩
    refine⟨(.exit 0,⟨[.und,.t (tL S),.und,.bp 1 0,I c,.und,I W.length,I W.length],J⟩),?_,by simp,c,J,rfl,⟨G,U,mi⟩,cj⟩
    clear rg mi
    generalize W.length=wl at*
    simp(disch:=omega)only[go_sem,K.dS,↓reduceIte,reduceAdd,reduceSub]
 obtain⟨q,hq,c,J,rfl,mo,cw⟩:=loop
 refine⟨c,bS K.gP rfl ?_,mo,cw⟩
 clear mo
 simp(disch:=omega)only[go_sem,K.aS,↓reduceIte,hq,reduceAdd,reduceSub]
theorem gQ{W:List (List Int)}{S:List Int}(hW:W.length≤12)(hS:S.length≤1000)(hwl:∀i,(nth W i).length≤1000000):
 bV 0 N.aS [.t (.sl (W.map tL)),.t (tL S)] []=some (I (cQ W S),[])∧∃c:Nat,cQ W S=c∧uJ W S c∧c≤W.length:=by
 obtain⟨c,a,⟨G,U,b⟩,d⟩:=C0 (by omega) hS hwl
 have e:=b.cQ hW
 rw[← e]
 exact⟨a,c,rfl,b.YK,d⟩
end Go.Ev
namespace Go.Ev.K
open Go.Ev
def aH:Fn:= { dC:=1,vars:=[0,2],body:=(q [w 1 (.mv (.c (.nil)))] [] (q [m v0,m v0,u (.ln l0),m v0,u (.ln l0),u (.s3 l4 l2 l0),x 1 l0] [] .ret)),res:=[(1,none)]}
def aF:Fn:= { dC:=1,vars:=[2],body:= .fail,res:=[(0,none)],prim:=[5,N.af]}
end Go.Ev.K
namespace Go.Ev
class jR [Lib]:Prop where
 cY:Lib.fs N.aH=some K.aH
 bT:Lib.fs N.aF=some K.aF
namespace K
variable [Lib] [jR]
theorem cY:Lib.fs N.aH=some K.aH:=jR.cY
theorem bT:Lib.fs N.aF=some K.aF:=jR.bT
end K
end Go.Ev
namespace Go.Ev
open Go
variable [Lib] [aL] [aN] [bF] [bJ] [cT] [bL] [bM] [cC] [cA] [aZ] [a7] [bX] [bY] [eK] [dy] [jR]
structure lM(S got:List Int):Prop where
 nd:got.Nodup
 mem:∀x∈got,0≤x∧x<S.length
theorem lM.step{S got:List Int}(h:lM S got)(x:Int):lM S (ET S got x):=
 ⟨zR h.nd,fun y hy=>by rcases vq.1 hy with a | ⟨rfl,a⟩;exact h.mem y a;exact a⟩
theorem lM.list{S:List Int}:∀ {l got:List Int},lM S got→lM S (CY S got l)
 | [],_,h=>h
 | x::l,got,h=>lM.list (l:=l) (h.step x)
theorem lM.lists{S:List Int}:∀ {L:List (List Int)} {got:List Int},lM S got→lM S (rW S got L)
 | [],_,h=>h
 | x::l,got,h=>lM.lists (L:=l) h.list
theorem lM.nil(S:List Int):lM S []:=⟨by simp,by simp⟩
theorem mW{W:List (List Int)}{b:Nat}(hl:∀i,(nth W i).length≤b)(X:List Nat)(i:Nat):(nth (aO W X) i).length≤b:=by
 by_cases c:i<(aO W X).length
 · have:=dE (l:=aO W X) c
   obtain⟨k, -,e⟩:=List.mem_map.1 this
   rw[← e];exact hl k
 · rw[kI c];exact Nat.zero_le _
end Go.Ev
namespace Go.Ev
open Go
variable [Lib] [aL] [aN] [bF] [bJ]
theorem zZ{H H':ab}:∀(k:Nat) (d:D),(∀i∈bH H k d,∃sz pin pin' ep es,H[i]?=some (.arr sz pin ep es)∧H'[i]?=some (.arr sz pin' ep es))→frz H' k d=frz H k d∧bH H' k d=bH H k d:=by
 intro k
 induction k with
 | zero=>intro d _;cases d<;>exact⟨rfl,rfl⟩
 | succ k ih=>
   intro d h
   have list:∀es:List D,(∀i∈es.flatMap (bH H k),∃sz pin pin' ep es,H[i]?=some (.arr sz pin ep es)∧H'[i]?=some (.arr sz pin' ep es))→aE (frz H' k) es=aE (frz H k) es∧es.flatMap (bH H' k)=es.flatMap (bH H k):=by
    intro es
    induction es with
    | nil=>intro _;exact⟨rfl,rfl⟩
    | cons e es ihl=>
      intro he
      obtain⟨a1,a2⟩:=ih e fun i hi=>he i (by simp[hi])
      obtain⟨b1,b2⟩:=ihl fun i hi=>he i (by rw[List.flatMap_cons];exact List.mem_append_right _ hi)
      exact⟨by simp only[aE,a1,b1],by simp only[List.flatMap_cons,a2,b2]⟩
   cases d with
   | agg cs=>
     simp only[bH]at h
     obtain⟨a1,a2⟩:=list cs h
     exact⟨by simp only[frz,a1],by simp only[bH,a2]⟩
   | ref id ep n=>
     obtain⟨sz,pin,pin',ep',es,e1,e2⟩:=h id (by simp[bH])
     have:∀i∈es.flatMap (bH H k),∃sz pin pin' ep es,H[i]?=some (.arr sz pin ep es)∧H'[i]?=some (.arr sz pin' ep es):=fun i hi=>h i (by simp only[bH,e1];exact List.mem_cons_of_mem _ hi)
     obtain⟨a1,a2⟩:=list es this
     refine⟨?_,by simp only[bH,e1,e2,a2]⟩
     simp only[frz,b5,e1,e2]
     by_cases c:ep=ep'∧n=es.length
     · simp only[if_pos c,aLq,a1]
     · simp only[if_neg c,Option.bind_none]
   | sub id ep n lo hi=>
     obtain⟨sz,pin,pin',ep',es,e1,e2⟩:=h id (by simp[bH])
     have:∀i∈es.flatMap (bH H k),∃sz pin pin' ep es,H[i]?=some (.arr sz pin ep es)∧H'[i]?=some (.arr sz pin' ep es):=fun i hi=>h i (by simp only[bH,e1];exact List.mem_cons_of_mem _ hi)
     obtain⟨a1,a2⟩:=list es this
     have:∀i∈((es.drop lo).take (hi-lo)).flatMap (bH H k),∃sz pin pin' ep es,H[i]?=some (.arr sz pin ep es)∧H'[i]?=some (.arr sz pin' ep es):=fun i hi=>by
      obtain⟨e,he,hi⟩:=List.mem_flatMap.1 hi
      exact this i (List.mem_flatMap.2 ⟨e,List.mem_of_mem_drop (List.mem_of_mem_take he),hi⟩)
     obtain⟨b1,b2⟩:=list _ this
     refine⟨?_,by simp only[bH,e1,e2,a2]⟩
     simp only[frz,b5,e1,e2]
     by_cases c:ep=ep'∧n=es.length
     · simp only[if_pos c,aLq,b1]
     · simp only[if_neg c,Option.bind_none]
   | _=>exact⟨rfl,rfl⟩
section
variable {bm : bW} (hm : bm.ok) {t : Int} (i : Nat) {H : ab} {io iB iO n a fbi tl : Nat} {es : List D} {whr : List Wh} (e1 : H[iO]? = some (.box [.ref io 0 n])) (e2 : H[io]? = some (.arr 2 false 0 es)) (e3 : es.length = n)
 (e4:es[i]?=some (.agg [.ref a 0 tl,.ref fbi 0 whr.length])) (e5:H[fbi]?=some (.arr 2 false 0 (whs whr))) (e6:H[iB]?=some (.box (rq bm))) (hi:i<n) (hn:n≤1000000) (hl:whr.length≤1000000)
include hm e1 e2 e3 e4 e5 e6 hi hn hl
end
theorem Rp.app{H:ab}{id:Nat}{es:List D}{fa fb:Nat→Nat}{out:List World}(hr:Rp H id es fa fb out)(t:ab):Rp (H++t) id es fa fb out:=
 ⟨by rw[mz (p5 hr.arr)];exact hr.arr,hr.len,hr.el,fun j hj=>by rw[mz (p5 (hr.ha j hj))];exact hr.ha j hj,fun j hj=>by rw[mz (p5 (hr.hb j hj))];exact hr.hb j hj,hr.na,hr.nb,hr.nab,hr.nbb⟩
structure SlH(H:ab)(b:List World)(bm:bW)(iB iO io:Nat)(es:List D)(fa fb:Nat→Nat)(A:List Nat)(O:List World):Prop where
 h1:H[1]?=some (.box [.ref 3 0 b.length])
 h2:H[2]?=some (.box [.nil])
 hB:H[iB]?=some (.box (rq bm))
 hO:H[iO]?=some (.box [.ref io 0 O.length])
 rp:Rp H io es fa fb O
 ar:∀i∈A,∃sz pin ep es,H[i]?=some (.arr sz pin ep es)
 nA:∀i∈A,∀j,j<O.length→i≠fb j
 eA:bH H 7 (.ref 3 0 b.length)=A
 fr:frz H 7 (.ref 3 0 b.length)=some (.sl (b.map World.e))
theorem SlH.step{H:ab}{b:List World}{bm:bW}{iB iO io:Nat}{es:List D}{fa fb:Nat→Nat}{A:List Nat}{O:List World}(h:SlH H b bm iB iO io es fa fb A O){i:Nat}(hi:i<O.length)(x:World)(ht:(nth O i).tags=x.tags)
 (hw:x.whr.length=(nth O i).whr.length) (o:Obj):SlH (H.set (fb i) (.arr 2 false 0 (whs x.whr))++[o]) b bm iB iO io es fa fb A (O.set i x):=by
 have hb:=h.rp.hb i hi
 have nb:∀ {k:Nat} {cs:List D},H[k]?=some (.box cs)→(H.set (fb i) (.arr 2 false 0 (whs x.whr))++[o])[k]?=some (.box cs):=fun{k cs} hk=>by
  have ne:fb i≠k:=fun e=>by rw[e,hk]at hb;cases hb
  rw[mz (by rw[List.length_set];exact p5 hk),iP ne];exact hk
 have na:∀k∈A,(H.set (fb i) (.arr 2 false 0 (whs x.whr))++[o])[k]?=H[k]?:=fun k hk=>by
  obtain⟨sz,pin,ep,es',e⟩:=h.ar k hk
  rw[mz (by rw[List.length_set];exact p5 e),iP (fun e=>h.nA k hk i hi e.symm)]
 have fc:=zZ (H:=H) (H':=H.set (fb i) (.arr 2 false 0 (whs x.whr))++[o]) 7 (.ref 3 0 b.length) (fun k hk=>by
  rw[h.eA]at hk
  obtain⟨sz,pin,ep,es',e⟩:=h.ar k hk
  exact⟨sz,pin,pin,ep,es',e,by rw[na k hk];exact e⟩)
 refine⟨nb h.h1,nb h.h2,nb h.hB,by rw[List.length_set];exact nb h.hO,(h.rp.merge hi x ht hw).app _,fun k hk=>?_,by rw[List.length_set];exact h.nA,by rw[fc.2];exact h.eA,by rw[fc.1];exact h.fr⟩
 obtain⟨sz,pin,ep,es',e⟩:=h.ar k hk
 exact⟨sz,pin,ep,es',by rw[na k hk];exact e⟩
end Go.Ev
namespace Go.Ev
open Go
variable [Lib] [aL] [aN] [bF] [bJ] [cT] [bL] [bM] [cC] [cA] [aZ] [a7] [bX] [bY] [eK] [dy] [jR]
def cD(W:List (List Int))(S:List Int):Bool:=decide (cQ W S=W.length)
def lN(S:List Int)(s:Nat):List Int:=S.set s (nth S s-1)
def okS(R:List (List Int))(w S:List Int)(s:Nat):Bool:=decide ((s:Int)∈w)&&(decide (0<nth S s)&&cD R (lN S s))
def kK(R:List (List Int))(w S:List Int):Option Nat:=(List.range S.length).find? (okS R w S)
def fZ(W:List (List Int))(S:List Int):Nat→List Int×List Int
 | 0=>(S,[])
 | i+1=>match kK (W.drop (i+1)) (nth W i) (fZ W S i).1 with
   | some s=>(lN (fZ W S i).1 s,(fZ W S i).2++[(s:Int)])
   | none=>fZ W S i
structure fW(S:List Int)(n:Nat):Prop where
 len:S.length=n
 bd:∀i,nth S i<9223372036854775808
theorem cZ{l:List Int}{i:Nat}{a:Int}(h:i<l.length):nth (l.set i a) i=a:=iL (aLj h)
theorem ed{l:List Int}{i j:Nat}{a:Int}(h:j≠i):nth (l.set j a) i=nth l i:=by
 unfold nth
 simp only[aLl,aLi h]
theorem fW.dec{S:List Int}{n:Nat}(h:fW S n){s:Nat}(hs:s<n)(h0:0<nth S s):fW (lN S s) n where
 len:=by unfold lN;rw[List.length_set,h.len]
 bd i:=by
  have l:=h.len
  unfold lN
  by_cases c:s=i
  · subst c;rw[cZ (by omega)];have:=h.bd s;omega
  · rw[ed c];exact h.bd i
theorem n5{R:List (List Int)}{w S:List Int}{s:Nat}(h:kK R w S=some s):s<S.length∧okS R w S s=true:=
 ⟨aLu.1 (List.mem_of_find?_eq_some h),List.find?_some h⟩
theorem Aa{R:List (List Int)}{w S:List Int}{s:Nat}(h:okS R w S s=true):(s:Int)∈w∧0<nth S s∧cD R (lN S s)=true:=by
 unfold okS at h
 rw[aLr,aLr,decide_eq_true_iff,decide_eq_true_iff]at h
 exact⟨h.1,h.2.1,h.2.2⟩
theorem Ab(W:List (List Int)){S:List Int}{n:Nat}(h:fW S n):∀i,fW (fZ W S i).1 n∧(fZ W S i).2.length≤i
 | 0=>⟨h,aLs _⟩
 | i+1=>by
   obtain⟨a,b⟩:=Ab W h i
   rw[fZ]
   cases hf:kK (W.drop (i+1)) (nth W i) (fZ W S i).1 with
   | some s=>
     obtain⟨s1,s2⟩:=n5 hf
     have:=a.len
     exact⟨a.dec (by omega) (Aa s2).2.1,by simp only[aLv,List.length_singleton];omega⟩
   | none=>exact⟨a,Nat.le_trans b (by omega)⟩
theorem vA(W:List (List Int))(k i:Nat):nth (W.drop k) i=nth W (k+i):=by
 unfold nth
 rw[aLl,aLl,List.getElem?_drop]
theorem Ac{W:List (List Int)}{b:Nat}(h:∀i,(nth W i).length≤b)(k i:Nat):(nth (W.drop k) i).length≤b:=by rw[vA];exact h _
theorem C1{l:List Int}{i:Nat}{x:Int}(h:i<l.length)(e:x=nth l i):(l.set i (nth l i-1)).set i x=l:=by
 rw[List.set_set,e]
 apply List.ext_getElem?
 intro j
 by_cases c:i=j
 · subst c
   rw[aLj h]
   unfold nth
   rw[aLl,aLc h];rfl
 · rw[aLi c]
def vB(W:List (List Int))(S:List Int):List Int:=if cD W S then(fZ W S W.length).2 else []
end Go.Ev
namespace Go.Ev
open Go
variable [Lib] [aL] [aN]
structure OfI(m:bW)(p:Nat)(l:List Int):Prop where
 ln:l.length=m.a8.length
 bd:bnd l
 z:nth l p=0
theorem OfI.set{m:bW}{p:Nat}{l:List Int}(h:OfI m p l){q:Nat}{x:Int}(hq:q<l.length)(h0:0<x)(hx:x<nth l q):OfI m p (l.set q x):=by
 have b1:=h.bd _ (dE hq)
 refine⟨by rw[List.length_set];exact h.ln,HB h.bd (by omega) (by omega),?_⟩
 rw[CD _ _ hq]
 split
 · rename_i e;subst e;have:=h.z;omega
 · exact h.z
@[go_sem] theorem Qx : dK [] [] [] = some true := (rfl)
@[go_sem] theorem Qy (ks : List Bool) (k : IntKind) (a b : Int) (xs ys : List T) : dK (true :: ks) (.int k a :: xs) (.int k b :: ys) = Cc (decide (a = b)) (dK ks xs ys) := by
 simp only[dK,if_true,Nw]
 cases dK ks xs ys<;>rfl
@[go_sem] theorem MM (ks : List Bool) (a b : Bool) (xs ys : List T) : dK (false :: ks) (.bool a :: xs) (.bool b :: ys) = Cc (decide (a = b)) (dK ks xs ys) := by
 simp only[dK,show(a==b)=decide (a=b)from rfl]
 cases dK ks xs ys<;>rfl
@[go_sem] theorem Ti (H : ab) (ks : List Bool) (neg : Bool) (xs ys : List T) : ib H (.sc ks) neg (some (.t (.agg xs))) (some (.t (.agg ys))) = Cd H neg (dK ks xs ys) := by
 simp only[ib,aLq,Dg,eqD]
 cases dK ks xs ys with
 | none=>rfl
 | some r=>cases neg<;>rfl
end Go.Ev
namespace Go.Ev.K
open Go.Ev
end Go.Ev.K
namespace Go.Ev
class gr [Lib]:Prop where
namespace K
variable [Lib] [gr]
end K
end Go.Ev
namespace Go.Ev.K
open Go.Ev
end Go.Ev.K
namespace Go.Ev
class gu [Lib]:Prop where
namespace K
variable [Lib] [gu]
end K
end Go.Ev
namespace Go.Ev
open Go
variable [Lib] [aL] [aN] [bF] [bJ] [bL] [bM] [cC] [cA] [gr] [gu]
end Go.Ev
namespace Go.Ev
open Go
variable [Lib] [aL] [aN] [bF] [bJ] [cT] [bL] [bM] [cC] [cA] [aZ] [a7] [bX] [bY]
end Go.Ev
namespace Go.Ev
open Go
variable [Lib] [aL] [aN] [bF] [bJ]
end Go.Ev
namespace Go.Ev
open Go
variable [Lib] [aL] [aN] [bF] [bJ] [cT] [bL] [bM] [cC] [cA] [aZ] [a7] [bX] [bY] [gr] [gu]
end Go.Ev
namespace Go.Ev
open Go
variable [Lib]
structure Edge where
 r:Nat
 a:Nat
 b:Nat
 t:Int
structure Lab where
 t:Int
 r:Int
 deriving DecidableEq
instance : Dat Edge := ⟨⟨0, 0, 0, 0⟩⟩
instance : Dat Lab := ⟨⟨0, 0⟩⟩
def kM(x y:Lab):Bool:=decide (x.t<y.t)||(decide (x.t=y.t)&&decide (x.r<y.r))
theorem n9{x y:Lab}:kM x y=true↔x.t<y.t∨x.t=y.t∧x.r<y.r:=by
 simp[kM]
theorem Ad{x y:Lab}:kM x y=false↔¬(x.t<y.t∨x.t=y.t∧x.r<y.r):=by
 rw[← n9,Bool.not_eq_true]
def C2(L:List Lab)(e:Edge):Lab:=⟨(nth L e.b).t+e.t,(nth L e.b).r+1⟩
def Tj(F:Int)(u:Edge→Bool)(L:List Lab)(e:Edge):Bool:=u e&&decide ((nth L e.b).t<F)&&kM (C2 L e) (nth L e.a)
def YT(F:Int)(u:Edge→Bool)(L:List Lab)(e:Edge):List Lab:=if Tj F u L e then L.set e.a (C2 L e)else L
def Tk(F:Int)(u:Edge→Bool)(E:List Edge)(L:List Lab)(c:Bool):Nat→List Lab×Bool
 | 0=>(L,c)
 | j+1=>(YT F u (Tk F u E L c j).1 (nth E j),(Tk F u E L c j).2||Tj F u (Tk F u E L c j).1 (nth E j))
structure YU(F:Int)(n:Nat)(L:List Lab):Prop where
 l:L.length=n
 t0:∀p,p<n→0≤(nth L p).t
 t1:∀p,p<n→(nth L p).t≤F
 r0:∀p,p<n→0≤(nth L p).r
 r1:∀p,p<n→(nth L p).r≤(nth L p).t
def Edge.ok(n:Nat)(e:Edge):Prop:=e.a<n∧e.b<n∧1≤e.t∧e.t≤1000000
def wL(F:Int)(x:Lab):Nat:=(x.t*(F+1)+x.r).toNat
def YV(F:Int)(L:List Lab):Nat:=(L.map (wL F)).sum
structure YW(F:Int)(n:Nat)(E:List Edge)(u:Edge→Bool)(Z:Nat→Bool)(L:List Lab):Prop extends YU F n L where
 z:∀p,p<n→Z p=true→nth L p=⟨0,0⟩
 w:∀p,p<n→(nth L p).t<F→Z p=true∨∃e∈E,u e=true∧e.a=p∧(nth L e.b).t<F∧kM (nth L p) (C2 L e)=false
structure Tl(F:Int)(n:Nat)(E:List Edge)(u:Edge→Bool)(Z:Nat→Bool)(L:List Lab):Prop extends YW F n E u Z L where
 fx:∀e∈E,Tj F u L e=false
def Qz(F:Int)(u:Edge→Bool)(E:List Edge)(L:List Lab):List Lab:=uH (fun L=>Tk F u E L false E.length) (YV F L+1) L
theorem Tl.eqn{F:Int}{n:Nat}{E:List Edge}{u:Edge→Bool}{Z:Nat→Bool}{L:List Lab}(h:Tl F n E u Z L)(hE:∀e∈E,e.ok n){p:Nat}(hp:p<n)(hf:(nth L p).t<F)(hz:Z p=false):∃e∈E,u e=true∧e.a=p∧(nth L e.b).t<F∧nth L p=C2 L e:=by
 rcases h.w p hp hf with h1 | ⟨e,he,e1,e2,e3,e4⟩
 · rw[hz]at h1;cases h1
 · refine⟨e,he,e1,e2,e3,?_⟩
   have fx:=h.fx e he
   unfold Tj at fx
   rw[e1,decide_eq_true e3,e2]at fx
   simp only[Bool.true_and]at fx
   rw[Ad]at fx e4
   have:∀x y:Lab,x.t=y.t→x.r=y.r→x=y:=fun x y a b=>by
    cases x;cases y;simp only at a b;rw[a,b]
   exact this _ _ (by omega) (by omega)
theorem Ae{p q:Nat→Bool}(h:∀x,p x=true→q x=true){l:List Nat}{x:Nat}(hx:x∈l)(h1:q x=true)(h2:p x=false):l.countP p<l.countP q:=by
 have le:∀l:List Nat,l.countP p≤l.countP q:=fun l=>List.countP_mono_left (fun x _ hp=>h x hp)
 induction l with
 | nil=>cases hx
 | cons a l ih=>
   rw[List.countP_cons,List.countP_cons]
   have:=le l
   rcases List.mem_cons.1 hx with rfl | hx
   · rw[h1,h2];simp;omega
   · have:=ih hx
     cases hp:p a with
     | true=>rw[h a hp];simp;omega
     | false=>simp;omega
theorem Tl.time{F:Int}{n:Nat}{E:List Edge}{u:Edge→Bool}{Z:Nat→Bool}{L:List Lab}(h:Tl F n E u Z L)(hE:∀e∈E,e.ok n){p:Nat}(hp:p<n)(hf:(nth L p).t<F):(nth L p).t≤(n:Int)*1000000:=by
 have key:∀(k:Nat) (p:Nat),p<n→(nth L p).t.toNat=k→(nth L p).t<F→(nth L p).t≤((List.range n).countP (fun x=>kM (nth L x) (nth L p)):Int)*1000000:=by
  intro k
  induction k using Nat.strongRecOn with
  | ind k ih=>
    intro p hp hk hf
    by_cases hz:Z p=true
    · rw[h.z p hp hz]
      have:0≤((List.range n).countP (fun x=>kM (nth L x) ⟨0,0⟩):Int)*1000000:=Int.mul_nonneg (Int.natCast_nonneg _) (by omega)
      exact this
    · obtain⟨e,he,e1,e2,e3,e4⟩:=h.eqn hE hp hf (by simpa using hz)
      obtain⟨o1,o2,o3,o4⟩:=hE e he
      have ct:(nth L p).t=(nth L e.b).t+e.t:=by rw[e4];rfl
      have cr:(nth L p).r=(nth L e.b).r+1:=by rw[e4];rfl
      have b0:=h.t0 _ o2
      have:=ih (nth L e.b).t.toNat (by omega) e.b o2 rfl e3
      have lt:(List.range n).countP (fun x=>kM (nth L x) (nth L e.b))<(List.range n).countP (fun x=>kM (nth L x) (nth L p)):=by
       refine Ae (fun x hx=>?_) (aLu.2 o2) ?_ ?_
       · rw[n9]at hx ⊢;omega
       · rw[n9];omega
       · rw[Ad];omega
      generalize (List.range n).countP (fun x=>kM (nth L x) (nth L e.b))=c1 at*
      generalize (List.range n).countP (fun x=>kM (nth L x) (nth L p))=c2 at*
      omega
 have a:=key _ p hp rfl hf
 have b:(List.range n).countP (fun x=>kM (nth L x) (nth L p))≤n:=by
  have:=List.countP_le_length (p:=fun x=>kM (nth L x) (nth L p)) (l:=List.range n)
  simpa using this
 generalize (List.range n).countP (fun x=>kM (nth L x) (nth L p))=c at*
 omega
def Wk(u:Edge→Bool)(L:List Lab)(at':Nat)(e:Edge):Bool:=decide (e.a=at')&&u e&&decide (nth L e.b=⟨(nth L at').t-e.t,(nth L at').r-1⟩)
def Wl(u:Edge→Bool)(E:List Edge)(L:List Lab)(at':Nat):Option Edge:=E.find? (Wk u L at')
def QA(Z:Nat→Bool)(u:Edge→Bool)(E:List Edge)(L:List Lab):Nat→Nat→List Edge
 | 0,_=>[]
 | k+1,p=>if Z p then []else match Wl u E L p with
   | some e=>e::QA Z u E L k e.b
   | none=>[]
def E1:Nat→List Edge→Prop
 | _,[]=>True
 | p,e::l=>e.a=p∧E1 e.b l
def XX:Nat→List Edge→Nat
 | p,[]=>p
 | _,e::l=>XX e.b l
structure XY(F:Int)(n:Nat)(E:List Edge)(u:Edge→Bool)(Z:Nat→Bool)(L:List Lab)(p:Nat)(l:List Edge):Prop where
 mem:∀e∈l,e∈E∧u e=true∧e.b<n
 chain:E1 p l
 fin:Z (XX p l)=true
 sum:(l.map Edge.t).sum=(nth L p).t
 low:∀e∈l,(nth L e.b).r<(nth L p).r
 dis:(l.map Edge.b).Nodup
end Go.Ev
namespace Go.Ev.K
open Go.Ev
end Go.Ev.K
namespace Go.Ev
class iq [Lib]:Prop where
namespace K
variable [Lib] [iq]
end K
end Go.Ev
namespace Go.Ev.K
open Go.Ev
def bw:C:= (.seq (.ite [m v4,m v3,u (.ln l0),u (.bin .lss l2 l0)] [] 0 .skip (.exit 2)) (.seq (.blk 3 (.ite [m v3,m v4,a 1 l1 l0,g l0,m v3,m v4,u (.bin .sub l0 (.i 1)),a 1 l2 l0,g l0,u (.bin .neq l5 l0)] [] 0 (q [m v0,m v2,m v3,m v4,a 1 l1 l0,g l0,a 1 l5 l4,u (.st l0 l1 1 [])] [] (.reg [m v2,u (.bin .add l0 (.i 1)),x 2 l0] [])) .skip)) (.reg [m v4,u (.bin .add l0 (.i 1)),x 4 l0] [])))
def dz:C:= .loop true [1] K.bw
def aM:C:= (.seq (.ite [m v2,m v0,u (.ln l0),u (.bin .lss l2 l0)] [] 0 .skip (.exit 0)) (.seq (.blk 1 (.ite [m v0,m v2,a 1 l1 l0,g l0,m v0,m v2,u (.bin .sub l0 (.i 1)),a 1 l2 l0,g l0,u (.bin .eql l5 l0)] [] 0 (q [m v0,m v2,u (.sc l1 (some l0) none 1),x 3 l0] [] (.seq (q [x 4 (.i 1)] [] (.blk 2 K.dz)) (q [m v0,m v2,u (.sc l1 (some l0) none 1),u (.clr l0 (.int .i64 (0)) 1)] [] (q [m v0,m v2,u (.pop l1 l0),x 1 l0] [] .ret)))) .skip)) (.reg [m v2,u (.bin .add l0 (.i 1)),x 2 l0] [])))
def cf:C:= .loop true [1,3,4] K.aM
def aj:Fn:= { dC:=1,vars:=[0,2,3,4,5],body:=(q [w 1 (.mv (.c (.nil)))] [] (.seq (.ite [m v0,u (.ln l0),u (.bin .lss l0 (.i 2))] [] 0 (q [m v0,x 1 l0] [] .ret) .skip) (.seq (q [x 2 (.i 1)] [] (.blk 0 K.cf)) (q [m v0,x 1 l0] [] .ret)))),res:=[(1,none)]}
end Go.Ev.K
namespace Go.Ev
class gR [Lib]:Prop where
 a6:Lib.fs N.aj=some K.aj
namespace K
variable [Lib] [gR]
theorem a6:Lib.fs N.aj=some K.aj:=gR.a6
end K
end Go.Ev
namespace Go.Ev.K
open Go.Ev
end Go.Ev.K
namespace Go.Ev
class ir [Lib]:Prop where
namespace K
variable [Lib] [ir]
end K
end Go.Ev
namespace Go.Ev
open Go
variable [Lib] [aL] [aN] [bF] [bJ] [cT] [bL] [bM] [cC] [cA] [aZ] [a7] [bX] [bY] [gr] [gu] [iq] [gR] [ir]
structure Esc where
 safe:List Int
 bad:List Int
 shut:List Int
 E7:Int
instance : Dat Esc := ⟨⟨[], [], [], 0⟩⟩
abbrev Esc.e(e:Esc):T:= .agg [tL e.safe,tL e.bad,tL e.shut,tI e.E7]
structure Esc.ok(m:bW)(e:Esc):Prop where
 s:Cg e.safe m.a8.length=true
 b:Cg e.bad m.a8.length=true
 h:Cg e.shut m.roads.length=true
 l0:0≤e.E7
 l1:e.E7≤2147483648
theorem Esc.ok.sl{m:bW}{e:Esc}(hm:m.ok)(h:e.ok m):e.safe.length≤64:=by
 have:=p4 h.s;have:=hm.np;omega
theorem Esc.ok.bl{m:bW}{e:Esc}(hm:m.ok)(h:e.ok m):e.bad.length≤64:=by
 have:=p4 h.b;have:=hm.np;omega
theorem Esc.ok.hl{m:bW}{e:Esc}(hm:m.ok)(h:e.ok m):e.shut.length≤128:=by
 have:=p4 h.h;have:=hm.nr;omega
abbrev C3(m:bW)(k:Nat)(back:Bool):Int:=HA m k back 2 3 4
abbrev Edge.e(e:Edge):T:= .agg [tI e.r,tI e.a,tI e.b,tI e.t]
abbrev Lab.e(x:Lab):T:= .agg [tI x.t,tI x.r]
def uB(sf bd:List Bool)(e:Edge):Bool:= !(nth sf e.a)&& !(nth bd e.b)
def Wm(F:Int)(sf:List Bool)(n j:Nat):List Lab:=(List.range n).map fun p=>if decide (p<j)&& !(nth sf p)then⟨F,0⟩else⟨0,0⟩
abbrev XZ:Int:=1152921504606846976
def QB(E:List Edge)(sf bd:List Bool)(n:Nat):List Lab:=Qz XZ (uB sf bd) E (Wm XZ sf n n)
abbrev Wn(sf:List Bool)(p:Nat):Bool:=nth sf p
def YX(E:List Edge)(sf bd:List Bool)(n p:Nat):List Edge:=QA (Wn sf) (uB sf bd) E (QB E sf bd n) (nth (QB E sf bd n) p).r.toNat p
theorem Af{l:Nat}{L:C}{S:St}{p:Ex×St}{K:St→Option (Ex×St)}{E:Ex×St→Option (D×ab)}{R:Option (D×ab)}(h:exS bV L S=some p)(h2:(andThen (lB l (some p)) K).bind E=R):(andThen (lB l (exS bV L S)) K).bind E=R:=by
 rw[h];exact h2
def Wo(l:List Bool)(xs:List Int):Nat→List Bool
 | 0=>l
 | j+1=>(Wo l xs j).set (nth xs j).toNat true
def Wp(m:bW):List Bool:=m.a8.map Place.surf
def sfL(m:bW)(e:Esc):List Bool:=Wo (Wp m) e.safe e.safe.length
def bdL(m:bW)(e:Esc):List Bool:=Wo (List.replicate m.a8.length false) e.bad e.bad.length
def Wq(m:bW)(e:Esc)(k:Nat):List Edge:=
 if(k:Int)∈e.shut then []else
  (if 0≤C3 m k false then [⟨k,(nth m.roads k).frm.toNat,(nth m.roads k).to.toNat,C3 m k false⟩]else [])++
  (if 0≤C3 m k true then [⟨k,(nth m.roads k).to.toNat,(nth m.roads k).frm.toNat,C3 m k true⟩]else [])
def E2(m:bW)(e:Esc):Nat→List Edge
 | 0=>[]
 | j+1=>E2 m e j++Wq m e j
def QC(m:bW)(e:Esc):List Edge:=E2 m e m.roads.length
end Go.Ev
namespace Go.Ev
open Go
section
variable [Lib]
def JB(H:ab)(zero:T)(sz:Nat)(x:D):Option (D×ab):=qu H x zero sz
@[go_sem] theorem X0 (call : ak) (get : X → Option D) (H : ab) (x : X) (zero : T) (sz : Nat) : evO call get H (.clr x zero sz) = (get x).bind (JB H zero sz) := (rfl)
@[go_sem] theorem Ws (H : ab) (zero : T) (sz ep n lo hi : Nat) (es : List D) (h1 : n = es.length) (h2 : lo ≤ hi) (h3 : hi ≤ n) : JB (.arr sz false ep es :: H) zero sz (.sub 0 ep n lo hi) =
 some (.tup [],.arr sz false ep (es.take lo++List.replicate (hi-lo) (.t zero)++es.drop hi)::H):=by
 have a:b5 (.arr sz false ep es::H) 0 ep n=some (sz,false,es):=by
  show(if ep=ep∧n=es.length then some (sz,false,es)else none)=_
  rw[if_pos ⟨rfl,h1⟩]
 simp only[JB,qu,a,aLq,JK]
 by_cases h:hi-lo=0
 · rw[if_pos h,h]
   have:hi=lo:=by omega
   subst this
   simp
 · rw[if_neg h,if_pos (by simp)]
   have:lo+(hi-lo)=hi:=by omega
   rw[this]
   rfl
def JC(H:ab)(x hi:Option D):Option (D×ab):=x.bind fun a=>(hi.bind intOf).bind fun h=>MN H a h
@[go_sem] theorem X1 (call : ak) (get : X → Option D) (H : ab) (x hi : X) : evO call get H (.pop x hi) = JC H (get x) (get hi) := (rfl)
@[go_sem] theorem Wt (H : ab) (k : IntKind) (sz ep n : Nat) (i : Int) (es : List D) (h1 : n = es.length) (h2 : 0 ≤ i) (h3 : i ≤ n) : JC (.arr sz false ep es :: H) (some (.ref 0 ep n)) (some (.t (.int k i))) =
 some (.ref 0 (ep+1) i.toNat,.arr sz false (ep+1) (es.take i.toNat)::H):=by
 have a:b5 (.arr sz false ep es::H) 0 ep n=some (sz,false,es):=by
  show(if ep=ep∧n=es.length then some (sz,false,es)else none)=_
  rw[if_pos ⟨rfl,h1⟩]
 have b:intOf (.t (.int k i))=some i:=rfl
 have c:idx i=some i.toNat:=by unfold idx;rw[if_pos h2]
 simp only[JC,aLq,b,MN,a,c]
 rw[if_pos ⟨by omega,trivial⟩]
 rfl
end
variable [Lib] [aL] [aN] [bF] [bJ] [cT] [bL] [bM] [cC] [cA] [aZ] [a7] [bX] [bY] [gr] [gu] [iq] [gR] [ir]
def Wu(l:List Int)(e:Edge):Bool:= !decide ((e.r:Int)∈l)
def YY(l:List Int)(E:List Edge):List Edge:=E.filter (Wu l)
end Go.Ev
namespace Go.Ev
open Go
variable [Lib]
def kN(p:Nat→Bool)(l:List Int)(j:Nat):List Int:=((List.range j).filter p).map (nth l)
theorem vC(p:Nat→Bool)(l:List Int)(j:Nat):(kN p l j).length≤j:=by
 unfold kN
 rw[List.length_map]
 have:=List.length_filter_le p (List.range j)
 rwa [List.length_range]at this
theorem oe(p:Nat→Bool)(l:List Int)(j:Nat):kN p l (j+1)=kN p l j++(if p j then [nth l j]else []):=by
 unfold kN
 rw[List.range_succ,List.filter_append,List.map_append]
 cases h:p j<;>simp[h]
def kA(p:Nat→Bool)(l:List Int)(j:Nat):List Int:=kN p l j++l.drop (kN p l j).length
theorem Ag(p:Nat→Bool)(l:List Int){j:Nat}(hj:j≤l.length):(kA p l j).length=l.length:=by
 unfold kA
 have:=vC p l j
 rw[aLv,List.length_drop];omega
theorem C4{A B:List Int}{i:Nat}(h:A.length≤i):nth (A++B) i=nth B (i-A.length):=by
 unfold nth
 simp only[aLl,aLh h]
theorem Ah{A:List Int}{k i:Nat}:nth (A.drop k) i=nth A (k+i):=by
 unfold nth
 simp only[aLl,List.getElem?_drop]
theorem E3(p:Nat→Bool)(l:List Int)(j:Nat){i:Nat}(hi:(kN p l j).length≤i):nth (kA p l j) i=nth l i:=by
 unfold kA
 rw[C4 hi,Ah]
 congr 1
 omega
theorem C5{l:List Int}{k:Nat}(h:k<l.length):l.drop k=nth l k::l.drop (k+1):=by
 rw[List.drop_eq_getElem_cons h]
 congr 1
 have:=mR h
 rw[aLc h]at this
 exact Option.some.inj this
theorem QD(p:Nat→Bool)(l:List Int){j:Nat}(hj:j<l.length)(h:p j=true):(kA p l j).set (kN p l j).length (nth l j)=kA p l (j+1):=by
 unfold kA
 have dl:=vC p l j
 rw[oe p l j,if_pos h,List.set_append_right _ _ (aLs _),Nat.sub_self,aLv,List.length_singleton,List.append_assoc]
 congr 1
 rw[C5 (show(kN p l j).length<l.length by omega)]
 rfl
theorem Ai(p:Nat→Bool)(l:List Int){j:Nat}(h:p j=false):kN p l (j+1)=kN p l j∧kA p l (j+1)=kA p l j:=by
 have:kN p l (j+1)=kN p l j:=by rw[oe p l j,h];simp
 unfold kA
 rw[this]
 exact⟨rfl,rfl⟩
theorem Aj(p:Nat→Bool)(l:List Int):∀ {j:Nat},j≤l.length→(∀i,i<j→p i=true)→kN p l j=l.take j
 | 0,_,_=>rfl
 | j+1,hj,h=>by
   rw[oe,if_pos (h j (by omega)),Aj p l (by omega) (fun i hi=>h i (by omega)),List.take_succ,mR (by omega)]
   rfl
theorem C6(p:Nat→Bool)(l:List Int){i:Nat}(hi:i<l.length)(h:∀k,k<i→p k=true)(hp:p i=false):kA p l (i+1)=l∧(kN p l (i+1)).length=i:=by
 have e:kN p l (i+1)=l.take i:=by
  rw[(Ai p l hp).1,Aj p l (by omega) h]
 constructor
 · unfold kA
   rw[e,List.length_take,Nat.min_eq_left (by omega),List.take_append_drop]
 · rw[e,List.length_take];omega
theorem QE(p:Nat→Bool)(l:List Int)(j:Nat)(x:Int):x∈kN p l j↔∃i,i<j∧p i=true∧nth l i=x:=by
 unfold kN
 rw[List.mem_map]
 constructor
 · rintro ⟨i,hi,rfl⟩
   rw[List.mem_filter,aLu]at hi
   exact⟨i,hi.1,hi.2,rfl⟩
 · rintro ⟨i,h1,h2,rfl⟩
   exact⟨i,List.mem_filter.2 ⟨aLu.2 h1,h2⟩,rfl⟩
def bN(l:List Int)(i:Nat):Bool:=decide (i=0)||decide (nth l i≠nth l (i-1))
def mE(l:List Int):List Int:=kN (bN l) l l.length
theorem E4{l:List Int}(h:l.Pairwise (· ≤ ·)){i j:Nat}(hij:i<j)(hj:j<l.length):nth l i≤nth l j:=by
 have:=List.pairwise_iff_getElem.1 h i j (by omega) hj hij
 have e1:nth l i=l[i]:=iL (aLc (by omega))
 have e2:nth l j=l[j]:=iL (aLc hj)
 omega
theorem C7{l:List Int}(h:l.Pairwise (· ≤ ·))(x:Int):x∈mE l↔x∈l:=by
 unfold mE
 rw[QE]
 constructor
 · rintro ⟨i,h1,_,rfl⟩;exact dE h1
 · intro hx
   obtain⟨j,hj⟩:=aLf.1 hx
   have jl:=(aLe.1 hj).1
   have key:∀j,j<l.length→∃i,i<l.length∧bN l i=true∧nth l i=nth l j:=by
    intro j
    induction j with
    | zero=>intro h0;exact⟨0,h0,by simp[bN],rfl⟩
    | succ j ih=>
      intro hj
      by_cases c:nth l (j+1)=nth l j
      · obtain⟨i,h1,h2,h3⟩:=ih (by omega)
        exact⟨i,h1,h2,by rw[h3,c]⟩
      · exact⟨j+1,hj,by unfold bN;simp[c],rfl⟩
   obtain⟨i,h1,h2,h3⟩:=key j jl
   exact⟨i,h1,h2,by rw[h3,iL hj]⟩
theorem JD{l:List Int}(h:l.Pairwise (· ≤ ·)):(mE l).Pairwise (· < ·):=by
 unfold mE kN
 rw[List.pairwise_map]
 have:((List.range l.length).filter (bN l)).Pairwise (fun i j=>i<j∧j<l.length∧bN l j=true):=by
  rw[List.pairwise_filter]
  have r:(List.range l.length).Pairwise (fun i j=>i<j∧j<l.length):=by
   have:=List.pairwise_lt_range (n:=l.length)
   refine List.Pairwise.imp_of_mem ?_ this
   intro i j hi hj hij
   exact⟨hij,aLu.1 hj⟩
  exact r.imp (fun{a b} hab h1 h2=>⟨hab.1,hab.2,h2⟩)
 refine this.imp ?_
 rintro i j ⟨h1,h2,h3⟩
 unfold bN at h3
 simp only[Bool.or_eq_true,decide_eq_true_eq]at h3
 have h4:nth l j≠nth l (j-1):=h3.elim (fun h=>by omega) id
 have h5:nth l (j-1)≤nth l j:=E4 h (by omega) h2
 have h6:nth l i≤nth l (j-1):=by
  by_cases c:i=j-1
  · rw[c];exact Int.le_refl _
  · exact E4 h (by omega) (by omega)
 omega
end Go.Ev
namespace Go.Ev
open Go
variable [Lib] [aL] [aN] [bF] [bJ] [cT] [bL] [bM] [cC] [cA] [aZ] [a7] [bX] [bY] [gr] [gu] [iq] [gR] [ir]
abbrev YZ(P:List Edge):List Int:=P.map fun e=>(e.r:Int)
def w1E(m:bW)(e:Esc)(p:Nat):List Edge:=YX (QC m e) (sfL m e) (bdL m e) m.a8.length p
def st2(m:bW)(e:Esc)(p:Nat):List Edge:=YY (YZ (w1E m e p)) (QC m e)
theorem Ak(l:List Int):(∀i,i<l.length→bN l i=true)∨∃k,1≤k∧k<l.length∧bN l k=false∧∀i,i<k→bN l i=true:=by
 by_cases h:∀i,i<l.length→bN l i=true
 · exact .inl h
 · right
   have:∃k,k<l.length∧bN l k=false:=by
    apply Classical.byContradiction
    intro hn
    exact h fun i hi=>by
     cases hc:bN l i with
     | true=>rfl
     | false=>exact absurd ⟨i,hi,hc⟩ hn
   obtain⟨k,hk,hf⟩:=this
   induction k using Nat.strongRecOn with
   | ind k ih=>
     by_cases hx:∀i,i<k→bN l i=true
     · refine⟨k,?_,hk,hf,hx⟩
       by_cases c:k=0
       · subst c;simp[bN]at hf
       · omega
     · have:∃i,i<k∧bN l i=false:=by
        apply Classical.byContradiction
        intro hn
        exact hx fun i hi=>by
         cases hc:bN l i with
         | true=>rfl
         | false=>exact absurd ⟨i,hi,hc⟩ hn
       obtain⟨i,h1,h2⟩:=this
       exact ih i h1 (by omega) h2
theorem QF(l:List Int)(hl:l.length≤200000)(k:Nat)(h1:1≤k)(hk:k<l.length)(hf:bN l k=false)(hx:∀i,i<k→bN l i=true)(z1:D):
 exS bV K.dz ⟨[.ref 0 0 l.length,z1,I k,.sub 0 0 l.length k l.length,I 1],[cK l]⟩=
  some (.exit 2,⟨[.ref 0 0 l.length,.und,I (mE l).length,.sub 0 0 l.length k l.length,I (l.length-k)],[cK (kA (bN l) l l.length)]⟩):=by
 obtain⟨e1,e2⟩:=C6 (bN l) l hk hx hf
 refine ec (fun i=>⟨[.ref 0 0 l.length,.und,I (kN (bN l) l (k+1+i)).length,.sub 0 0 l.length k l.length,I (1+i:Nat)],[cK (kA (bN l) l (k+1+i))]⟩) (l.length-(k+1)) ?_ ?_ ?_ (by simp)
 · simp only[Nat.add_zero,e1,e2]
   rfl
 · intro i hi
   have hj:k+1+i<l.length:=by omega
   have kl:(kN (bN l) l (k+1+i)).length≤k+i:=by
    have key:∀i,(kN (bN l) l (k+1+i)).length≤k+i:=by
     intro i
     induction i with
     | zero=>rw[Nat.add_zero,e2];omega
     | succ i ih=>
       rw[show k+1+(i+1)=(k+1+i)+1 from rfl,oe]
       split<;>simp<;>omega
    exact key i
   have n1:=E3 (bN l) l (k+1+i) (i:=k+1+i) (by omega)
   have n2:=E3 (bN l) l (k+1+i) (i:=k+i) (by omega)
   have ln:=Ag (bN l) l (j:=k+1+i) (by omega)
   have st:=QD (bN l) l hj
   have sm:=Ai (bN l) l (j:=k+1+i)
   have sp:=oe (bN l) l (k+1+i)
   have fb:bN l (k+1+i)=decide (nth l (k+1+i)≠nth l (k+i)):=by
    unfold bN
    rw[decide_eq_false (by omega),Bool.false_or,show k+1+i-1=k+i by omega]
   rw[show k+1+(i+1)=k+1+i+1 from rfl]
   generalize kA (bN l) l (k+1+i)=A at*
   generalize kN (bN l) l (k+1+i)=F at*
   have x1:nth A (k+(1+i))=nth l (k+1+i):=by rw[← n1];congr 1;omega
   have x2:nth A (k+i)=nth l (k+i):=n2
   have t1:(1+(i:Int)).toNat=1+i:=by omega
   have t2:(1+(i:Int)-1).toNat=i:=by omega
   by_cases c:nth l (k+1+i)=nth l (k+i)
   · rw[(sm (by rw[fb];simp[c])).1,(sm (by rw[fb];simp[c])).2]
     simp(disch:=omega)only[go_sem,K.bw,↓reduceIte,t1,t2,x1,x2,c,not_true_eq_false,Int.add_assoc,reduceAdd,reduceSub]
   · rw[← st (by rw[fb];simp[c]),sp,if_pos (by rw[fb];simp[c])]
     simp(disch:=omega)only[go_sem,K.bw,↓reduceIte,t1,t2,x1,x2,c,GV,aLv,List.length_singleton,not_false_eq_true,Int.add_assoc,reduceAdd,reduceSub]
 · have:k+1+(l.length-(k+1))=l.length:=by omega
   rw[this]
   have ln:=Ag (bN l) l (j:=l.length) (aLs _)
   unfold mE
   generalize kA (bN l) l l.length=A at*
   generalize kN (bN l) l l.length=F at*
   have t3:(1:Int)+((l.length-(k+1):Nat):Int)=(l.length:Int)-k:=by omega
   simp(disch:=omega)only[go_sem,K.bw,↓reduceIte,t3,reduceAdd,reduceSub]
theorem Al(l:List Int)(hl:l.length≤200000)(h2:2≤l.length)(h:∀i,i<l.length→bN l i=true)(z1 z3 z4:D):
 exS bV K.cf ⟨[.ref 0 0 l.length,z1,I 1,z3,z4],[cK l]⟩=some (.exit 0,⟨[.ref 0 0 l.length,.und,I l.length,.und,.und],[cK l]⟩):=by
 refine ec (fun i=>⟨[.ref 0 0 l.length,.und,I (1+i:Nat),.und,.und],[cK l]⟩) (l.length-1) rfl ?_ ?_ (by simp)
 · intro i hi
   have fb:=h (1+i) (by omega)
   have c:¬nth l (1+i)=nth l i:=by
    unfold bN at fb
    rw[decide_eq_false (by omega),Bool.false_or,show 1+i-1=i by omega]at fb
    simpa using fb
   have t1:(1+(i:Int)).toNat=1+i:=by omega
   have t2:(1+(i:Int)-1).toNat=i:=by omega
   simp(disch:=omega)only[go_sem,K.aM,↓reduceIte,t1,t2,c,Int.add_assoc,reduceAdd,reduceSub]
 · have t3:(1:Int)+((l.length-1:Nat):Int)=(l.length:Int):=by omega
   simp(disch:=omega)only[go_sem,K.aM,↓reduceIte,t3,reduceAdd,reduceSub]
theorem wW(l:List Int)(hl:l.length≤200000)(k:Nat)(h1:1≤k)(hk:k<l.length)(hf:bN l k=false)(hx:∀i,i<k→bN l i=true)(z1 z3 z4:D):
 exS bV K.cf ⟨[.ref 0 0 l.length,z1,I 1,z3,z4],[cK l]⟩=some (.ret,⟨[.ref 0 0 l.length,.ref 0 1 (mE l).length,I (mE l).length,.sub 0 0 l.length k l.length,I (l.length-k)],[.arr 1 false 1 (((mE l).map (T.int .i64)).map .t)]⟩):=by
 have key:=CC (vs:=[.ref 0 0 l.length,z1,I 1,z3,z4]) (H:=[cK l]) (c:=K.aM) (gc:=true) (dead:=[1,3,4])
  (fun i st=>st=⟨[.ref 0 0 l.length,.und,I (1+i:Nat),.und,.und],[cK l]⟩) (k-1) (fun q=>q=(.ret,⟨[.ref 0 0 l.length,.ref 0 1 (mE l).length,I (mE l).length,.sub 0 0 l.length k l.length,I (l.length-k)],[.arr 1 false 1 (((mE l).map (T.int .i64)).map .t)]⟩)) rfl ?_ ?_
 · obtain⟨q,h1,rfl⟩:=key
   exact h1
 · rintro i st hi rfl
   have fb:=hx (1+i) (by omega)
   have c:¬nth l (1+i)=nth l i:=by
    unfold bN at fb
    rw[decide_eq_false (by omega),Bool.false_or,show 1+i-1=i by omega]at fb
    simpa using fb
   have t1:(1+(i:Int)).toNat=1+i:=by omega
   have t2:(1+(i:Int)-1).toNat=i:=by omega
   refine⟨_,?_,rfl⟩
   simp(disch:=omega)only[go_sem,K.aM,↓reduceIte,t1,t2,c,Int.add_assoc,reduceAdd,reduceSub]
 · rintro st rfl
   rw[show 1+(k-1)=k by omega]
   have c:nth l k=nth l (k-1):=by
    unfold bN at hf
    rw[decide_eq_false (by omega),Bool.false_or]at hf
    simpa using hf
   have t2:((k:Int)-1).toNat=k-1:=by omega
   have l2:=QF l hl k h1 hk hf hx
   have cl:(mE l).length≤l.length:=vC _ _ _
   have ln:=Ag (bN l) l (j:=l.length) (aLs _)
   have tk:(kA (bN l) l l.length).take (mE l).length=mE l:=by
    unfold kA mE
    rw[List.take_left]
   generalize kA (bN l) l l.length=A at*
   generalize mE l=U at*
   have al3:l.length=(List.map D.t (List.map (T.int .i64) A)).length:=by simp[ln]
   have al5:l.length=(List.take U.length (List.map D.t (List.map (T.int .i64) A))++List.replicate (l.length-U.length) (D.t (T.int .i64 0))++List.drop l.length (List.map D.t (List.map (T.int .i64) A))).length:=by
    simp only[aLv,List.length_take,List.length_replicate,List.length_drop,List.length_map]
    omega
   have ta:List.take U.length (List.map D.t (List.map (T.int .i64) A))=List.map D.t (List.map (T.int .i64) U):=by rw[← List.map_take,←List.map_take,tk]
   have ta2:∀x y:List D,List.take U.length (List.take U.length (List.map D.t (List.map (T.int .i64) A))++x++y)=List.map D.t (List.map (T.int .i64) U):=by
    intro x y
    rw[ta,List.append_assoc,List.take_left' (by simp)]
   refine⟨_,?_,?_,rfl⟩
   · simp(disch:=omega)only[go_sem,K.aM,↓reduceIte,t2,c,l2,ta2,reduceAdd,reduceSub]
   · simp
abbrev mK(l:List Int)(ep:Nat):Obj:= .arr 1 false ep ((l.map (T.int .i64)).map .t)
theorem JE{l:List Int}(h:∀i,i<l.length→bN l i=true):mE l=l:=by
 unfold mE
 rw[Aj _ _ (aLs _) h,List.take_length]
theorem wX(l:List Int)(hl:l.length≤200000):∃ep,bV 1 N.aj [.ref 0 0 l.length] [cK l]=some (.ref 0 ep (mE l).length,[mK (mE l) ep]):=by
 rcases Ak l with h | ⟨k,h1,hk,hf,hx⟩
 · refine⟨0,bS K.a6 rfl ?_⟩
   rw[JE h]
   by_cases h2:l.length<2
   · simp(disch:=omega)only[go_sem,K.aj,↓reduceIte,h2,reduceAdd,reduceSub]
   · have l1:=Al l hl (by omega) h
     simp(disch:=omega)only[go_sem,K.aj,↓reduceIte,h2,l1,reduceAdd,reduceSub]
 · refine⟨1,bS K.a6 rfl ?_⟩
   have l1:=wW l hl k h1 hk hf hx
   have h2:¬l.length<2:=by omega
   generalize mE l=U at*
   simp(disch:=omega)only[go_sem,K.aj,↓reduceIte,h2,reduceAdd,reduceSub]
   refine Af (l1 _ _ _) ?_
   simp(disch:=omega)only[go_sem,K.aj,↓reduceIte,reduceAdd,reduceSub]
end Go.Ev
namespace Go.Ev
open Go
variable [Lib] [aL] [aN] [bF] [bJ] [cT] [bL] [bM] [cC] [cA] [aZ] [a7] [bX] [bY] [gr] [gu] [iq] [gR] [ir] [eK] [dy] [jR]
theorem wY(l:List Int)(h0:l≠[])(hl:l.length≤1000000):bV 0 N.aF [.fn N.af [.bp 0 0]] [.box [.t (tL l)]]=some (.ref 1 0 l.length,[.box [.t (tL l)],cK (cU l)]):=by
 refine rm K.bT (by decide) ?_
 show kW [5,N.af] _ _=_
 simp only[kW,if_true,List.getElem?_cons_zero,iw,aLq,o6]
 rw[if_pos (by unfold lim;omega)]
 cases l with
 | nil=>exact absurd rfl h0
 | cons x l=>simp only[List.isEmpty_cons,aLt,if_false,List.length_singleton,List.map_map,cK];rfl
theorem tH:bV 0 N.aF [.fn N.af [.bp 0 0]] [.box [.t (tL [])]]=some (.nil,[.box [.t (tL [])]]):=by
 refine rm K.bT (by decide) ?_
 show kW [5,N.af] _ _=_
 simp only[kW,if_true,List.getElem?_cons_zero,iw,aLq,o6]
 rw[if_pos (by simp[lim])]
 rfl
theorem tJ:bV 1 N.aj [.nil] []=some (.nil,[]):=by
 refine bS K.a6 rfl ?_
 simp(disch:=omega)only[go_sem,K.aj,↓reduceIte,reduceAdd,reduceSub]
theorem gv(H H1:ab):fD H H1 [] (.nil,[])=some (.nil,H1):=by simp[fD,pR,fL,T.scalar,ren,depth,aE,aD,dL]
theorem jd(H:ab):jM H (.nil,[])=some (.nil,H):=by simp[jM,rh,ren,depth,aE]
def okU(R:List (List Int))(lf u:List Int)(k:Nat):Bool:=decide (0≤nth u k∧nth u k<lf.length)&&(decide (0<nth lf (nth u k).toNat)&&cD R (lN lf (nth u k).toNat))
theorem wZ{R:List (List Int)}{w lf u:List Int}(hu:u.Pairwise (· < ·))(hm:∀x,x∈u↔x∈w):
 kK R w lf=((List.range u.length).find? (okU R lf u)).map fun k=>(nth u k).toNat:=by
 have ok:∀k,okU R lf u k=true→k<u.length→0≤nth u k∧(nth u k).toNat<lf.length∧okS R w lf (nth u k).toNat=true:=fun k h hk=>by
  unfold okU at h
  rw[aLr,decide_eq_true_iff]at h
  obtain⟨⟨a,b⟩,c⟩:=h
  refine⟨a,by omega,?_⟩
  unfold okS
  rw[aLr,decide_eq_true_iff,Int.toNat_of_nonneg a]
  exact⟨(hm _).1 (dE hk),c⟩
 have ko:∀s,s<lf.length→okS R w lf s=true→∃k,k<u.length∧nth u k=s∧okU R lf u k=true:=fun s hs h=>by
  unfold okS at h
  rw[aLr,decide_eq_true_iff]at h
  obtain⟨a,b⟩:=h
  obtain⟨k,hk⟩:=aLf.1 ((hm _).2 a)
  have kl:=(aLe.1 hk).1
  have e:nth u k=(s:Int):=iL hk
  refine⟨k,kl,e,?_⟩
  unfold okU
  rw[aLr,decide_eq_true_iff,e,Int.toNat_natCast]
  exact⟨⟨by omega,by omega⟩,b⟩
 unfold kK
 cases hf:(List.range u.length).find? (okU R lf u)with
 | none=>
   rw[Option.map_none,List.find?_eq_none]
   intro s hs h
   obtain⟨k,kl, -,hk⟩:=ko s (aLu.1 hs) h
   exact List.find?_eq_none.1 hf k (aLu.2 kl) hk
 | some k=>
   have kl:=aLu.1 (List.mem_of_find?_eq_some hf)
   obtain⟨a,b,c⟩:=ok k (List.find?_some hf) kl
   have fst:∀i,i<k→okU R lf u i=false:=fun i hi=>by
    have:=(List.find?_range_eq_some.1 hf).2.2 i hi
    simpa using this
   rw[aLw,List.find?_range_eq_some]
   refine⟨c,aLu.2 b,fun s hs=>?_⟩
   cases e:okS R w lf s with
   | false=>rfl
   | true=>
     exfalso
     obtain⟨i,il,e1,e2⟩:=ko s (by omega) e
     have ik:i<k:=by
      rcases Nat.lt_trichotomy i k with q | q | q
      · exact q
      · subst q;omega
      · have:=List.pairwise_iff_getElem.1 hu k i kl il q
        have n1:nth u k=u[k]:=iL (aLc kl)
        have n2:nth u i=u[i]:=iL (aLc il)
        omega
     rw[fst i ik]at e2
     exact absurd e2 (by simp)
theorem C8{W:List (List Int)}{n:Nat}(hW:W.length≤12)(hS:n≤1000)(hl:∀i,(nth W i).length≤1000000){lf o:List Int}(sk:fW lf n)(ho:o.length≤100){i:Nat}(hi:i<W.length)(w:List Int)(u:List Int)(ep:Nat)(hu:u.length≤1000000):
 ∀z1 z2 z3 z7 z8:D,exS bV K.eO ⟨[.t (.sl (W.map tL)),z1,z2,z3,.ref 0 0 n,.ref 1 0 o.length,I i,z7,z8,.t (.sl (W.map tL)),I W.length,I i,.ref 3 ep u.length,I u.length,I 0],[cK lf,cK o,.box [.t (tL w)],mK u ep]⟩=some (match (List.range u.length).find? (okU (W.drop (i+1)) lf u)with
  | some k=>(.exit 2,⟨[.t (.sl (W.map tL)),.und,.und,.und,.ref 0 0 n,.ref 1 0 (o.length+1),I i,.und,I (nth u k),.t (.sl (W.map tL)),I W.length,I i,.ref 3 ep u.length,I u.length,I k],[cK (lN lf (nth u k).toNat),cK (o++[nth u k]),.box [.t (tL w)],mK u ep]⟩)
  | none=>(.exit 2,⟨[.t (.sl (W.map tL)),.und,.und,.und,.ref 0 0 n,.ref 1 0 o.length,I i,.und,.und,.t (.sl (W.map tL)),I W.length,I i,.ref 3 ep u.length,I u.length,I u.length],[cK lf,cK o,.box [.t (tL w)],mK u ep]⟩)):=by
 intro z1 z2 z3 z7 z8
 have ll:=sk.len
 have cw:aP 1 (W.map tL)=true:=ew 1 _ (fun _=>rfl) W
 have tn:((i:Int)+1).toNat=i+1:=by omega
 have rl:(W.drop (i+1)).length=W.length-(i+1):=List.length_drop
 have wi:IntKind.i64.wrap ((i:Int)+1)=(i:Int)+1:=c9 (by omega) (by omega)
 have wj:IntKind.i64.wrap ((W.length:Int)-i)=(W.length:Int)-i:=c9 (by omega) (by omega)
 have wm:IntKind.i64.wrap ((W.length:Int)-i-1)=(W.length:Int)-i-1:=c9 (by omega) (by omega)
 have wn:IntKind.i64.wrap ((n:Int)-1)=(n:Int)-1:=c9 (by omega) (by omega)
 have mo:∀lg:List Int,lg.length=n→bV 0 N.aS [.t (.sl ((W.map tL).drop (i+1))),.t (tL lg)] []=some (I (cQ (W.drop (i+1)) lg),[]):=fun lg h=>by
  rw[← List.map_drop]
  exact(gQ (by omega) (by omega) (Ac hl _)).1
 have fm:∀lg:List Int,cD (W.drop (i+1)) lg=decide (cQ (W.drop (i+1)) lg=(W.length:Int)-i-1):=fun lg=>by
  unfold cD
  rw[show((W.drop (i+1)).length:Int)=(W.length:Int)-i-1 by omega]
 have sb:=sk.bd
 have inn:=fun x:Int=>Pl x 0 ((n:Int)-1)
 refine i7 (fun k=>⟨[.t (.sl (W.map tL)),.und,.und,.und,.ref 0 0 n,.ref 1 0 o.length,I i,.und,.und,.t (.sl (W.map tL)),I W.length,I i,.ref 3 ep u.length,I u.length,I k],[cK lf,cK o,.box [.t (tL w)],mK u ep]⟩) u.length (okU (W.drop (i+1)) lf u) (fun k=>(.exit 2,⟨[.t (.sl (W.map tL)),.und,.und,.und,.ref 0 0 n,.ref 1 0 (o.length+1),I i,.und,I (nth u k),.t (.sl (W.map tL)),I W.length,I i,.ref 3 ep u.length,I u.length,I k],[cK (lN lf (nth u k).toNat),cK (o++[nth u k]),.box [.t (tL w)],mK u ep]⟩)) _ rfl ?_ ?_ ?_ (by simp)
 · intro k hk hp
   have ug:=cO (l:=u) (Ev.T.int .i64) hk
   have i1:=inn (nth u k)
   unfold okU at hp
   rw[fm]at hp
   by_cases c0:0≤nth u k∧nth u k≤(n:Int)-1
   · rw[decide_eq_true c0]at i1
     rw[decide_eq_true (p:=0≤nth u k∧nth u k<lf.length) ⟨c0.1,by omega⟩,Bool.true_and]at hp
     obtain⟨s,hs⟩:=Int.eq_ofNat_of_zero_le c0.1
     rw[hs]at hp i1 c0
     rw[Int.toNat_natCast]at hp
     have b:=sb s
     have sbk:=C1 (l:=lf) (i:=s) (x:=nth lf s-1+1) (by omega) (by omega)
     have h2:=mo (lN lf s) (by unfold lN;rw[List.length_set,ll])
     have n2:nth (lN lf s) s=nth lf s-1:=cZ (by omega)
     clear sb mo sk fm inn
     unfold lN at*
     generalize hd:lf.set s (nth lf s-1)=lf2 at*
     have l2:lf2.length=n:=by subst hd;rw[List.length_set,ll]
     generalize cQ (W.drop (i+1)) lf2=f at*
     simp only[tL,mK,cK]at*
     by_cases c2:nth lf s<1
     · simp(disch:=omega)only[go_sem,K.bC,↓reduceIte,ug,hs,wn,i1,c2,Bool.not_true,decide_true,aLt,reduceAdd,reduceSub]
     · rw[decide_eq_true (by omega),Bool.true_and,decide_eq_false_iff_not]at hp
       have w0:IntKind.i64.wrap (nth lf s-1)=nth lf s-1:=c9 (by omega) (by omega)
       have wk:IntKind.i64.wrap (nth lf s-1+1)=nth lf s-1+1:=c9 (by omega) (by omega)
       simp(disch:=omega)only[go_sem,K.bC,↓reduceIte,ug,hs,wn,i1,c2,w0,wi,cw,tn,h2,hd,n2,wk,sbk,wj,wm,hp,Bool.not_true,decide_false,aLt,reduceAdd,reduceSub]
   · rw[decide_eq_false c0]at i1
     clear sb mo sk fm inn hp
     simp only[tL,mK,cK]at*
     simp(disch:=omega)only[go_sem,K.bC,↓reduceIte,ug,wn,i1,Bool.not_false,aLt,reduceAdd,reduceSub]
 · intro k hk hp
   refine⟨?_,by simp⟩
   have ug:=cO (l:=u) (Ev.T.int .i64) hk
   have i1:=inn (nth u k)
   unfold okU at hp
   rw[fm,aLr,aLr,decide_eq_true_iff,decide_eq_true_iff,decide_eq_true_iff]at hp
   obtain⟨⟨c0,c1⟩,c2,c4⟩:=hp
   obtain⟨s,hs⟩:=Int.eq_ofNat_of_zero_le c0
   rw[decide_eq_true ⟨c0,by omega⟩]at i1
   rw[hs]at i1 c0 c1 c2 c4 ⊢
   rw[Int.toNat_natCast]at c2 c4 ⊢
   have b:=sb s
   have h2:=mo (lN lf s) (by unfold lN;rw[List.length_set,ll])
   rw[c4]at h2
   clear sb mo sk fm inn c4
   unfold lN at*
   generalize hd:lf.set s (nth lf s-1)=lf2 at*
   have l2:lf2.length=n:=by subst hd;rw[List.length_set,ll]
   have w0:IntKind.i64.wrap (nth lf s-1)=nth lf s-1:=c9 (by omega) (by omega)
   have c3:¬nth lf s<1:=by omega
   simp only[tL,mK,cK]at*
   simp(disch:=omega)only[go_sem,K.bC,↓reduceIte,ug,hs,wn,i1,c3,w0,wi,cw,tn,h2,hd,wj,wm,Bool.not_true,decide_false,aLt,reduceAdd,reduceSub]
 · simp only[tL,mK,cK]
   simp(disch:=omega)only[go_sem,K.bC,↓reduceIte,reduceAdd,reduceSub]
theorem Am(x0 x9 x10 x4 x5 x6 x11:D)(H:ab):∀z1 z2 z3 z7 z8:D,exS bV K.eO ⟨[x0,z1,z2,z3,x4,x5,x6,z7,z8,x9,x10,x11,.nil,I 0,I 0],H⟩=some (.exit 2,⟨[x0,.und,.und,.und,x4,x5,x6,.und,.und,x9,x10,x11,.nil,I 0,I 0],H⟩):=by
 intro z1 z2 z3 z7 z8
 refine ec (fun _=>⟨[x0,.und,.und,.und,x4,x5,x6,.und,.und,x9,x10,x11,.nil,I 0,I 0],H⟩) 0 rfl (fun j hj=>absurd hj (by omega)) ?_ (by simp)
 simp(disch:=omega)only[go_sem,K.bC,↓reduceIte,reduceAdd,reduceSub]
theorem lO{W:List (List Int)}{S:List Int}(hW:W.length≤12)(hS:S.length≤1000)(hl:∀i,(nth W i).length≤100000)(sk:fW S S.length):bV 0 N.aV [.t (.sl (W.map tL)),.t (tL S)] []=some (.tup [.t (tL (vB W S)),B (cD W S)],[]):=by
 refine bS K.fw rfl ?_
 have hl2:∀i,(nth W i).length≤1000000:=fun i=>by have:=hl i;omega
 obtain⟨mo,c,mc, -,cw⟩:=gQ hW hS hl2
 have cl:=zj S (by omega)
 unfold vB
 by_cases hf:cD W S=true
 · rw[hf]
   have lt:¬cQ W S<W.length:=by unfold cD at hf;rw[decide_eq_true_iff]at hf;omega
   have ok:=fun i=>Ab W sk i
   generalize cQ W S=mf at*
   have lp:∀z1 z2 z3 z6 z7 z8 z12 z13 z14:D,exS bV K.gZ ⟨[.t (.sl (W.map tL)),z1,z2,z3,.ref 0 0 S.length,.ref 1 0 0,z6,z7,z8,.t (.sl (W.map tL)),I W.length,I 0,z12,z13,z14],[cK S,.arr 1 false 0 []]⟩=
    some (.exit 0,⟨[.t (.sl (W.map tL)),.und,.und,.und,.ref 0 0 S.length,.ref 1 0 (fZ W S W.length).2.length,.und,.und,.und,.t (.sl (W.map tL)),I W.length,I W.length,.und,.und,.und],[cK (fZ W S W.length).1,cK (fZ W S W.length).2]⟩):=by
    intro z1 z2 z3 z6 z7 z8 z12 z13 z14
    refine ec (fun j=>⟨[.t (.sl (W.map tL)),.und,.und,.und,.ref 0 0 S.length,.ref 1 0 (fZ W S j).2.length,.und,.und,.und,.t (.sl (W.map tL)),I W.length,I j,.und,.und,.und],[cK (fZ W S j).1,cK (fZ W S j).2]⟩) W.length rfl ?_ ?_ (by simp)
    · intro j hj
      obtain⟨o1,o2⟩:=ok j
      have o3:(fZ W S j).2.length≤100:=by omega
      have wg:=cO (l:=W) tL hj
      have va:=zo (nth W j)
      have wl:=hl j
      by_cases wn:nth W j=[]
      · have ln:kK (W.drop (j+1)) (nth W j) (fZ W S j).1=none:=by
         unfold kK
         rw[List.find?_eq_none]
         intro s _
         rw[wn]
         simp[okS]
        have so:=tH
        have co:=tJ
        rw[fZ,ln]
        have e:=o1.len
        clear ln ok o1
        generalize fZ W S j=p at*
        obtain⟨lf,q⟩:=p
        generalize nth W j=w at*
        subst wn
        have l2:=fun x6 x11=>Am (.t (.sl (W.map tL))) (.t (.sl (W.map tL))) (I W.length) (.ref 0 0 S.length) (.ref 1 0 q.length) x6 x11 [cK lf,cK q,.box [.t (.sl [])]]
        simp only[tL,List.map_nil,cK]at*
        simp(disch:=omega)only[go_sem,K.cB,↓reduceIte,wg,va,so,co,l2,gv,reduceAdd,reduceSub]
      · have so:=wY (nth W j) wn (by omega)
        have sn:=dv (nth W j)
        obtain⟨ep,co⟩:=wX (cU (nth W j)) (by omega)
        have up:=JD (mT (nth W j))
        have um:∀x,x∈mE (cU (nth W j))↔x∈nth W j:=fun x=>by rw[C7 (mT _),(i9 _).mem_iff]
        have ul:(mE (cU (nth W j))).length≤1000000:=by
         have:=vC (bN (cU (nth W j))) (cU (nth W j)) (cU (nth W j)).length
         unfold mE
         omega
        rw[sn]at co
        have lf:=wZ (R:=W.drop (j+1)) (lf:=(fZ W S j).1) up um
        rw[fZ,lf]
        clear lf up um
        generalize mE (cU (nth W j))=u at*
        have l2:=C8 hW hS hl2 o1 o3 hj (nth W j) u ep ul
        have e:=o1.len
        have fr:∀k,(List.range u.length).find? (okU (W.drop (j+1)) (fZ W S j).1 u)=some k→0≤nth u k:=fun k h=>by
         have:=List.find?_some h
         unfold okU at this
         rw[aLr,decide_eq_true_iff]at this
         exact this.1.1
        clear o1 ok
        generalize fZ W S j=p at*
        obtain⟨lf,q⟩:=p
        simp only at*
        generalize (List.range u.length).find? (okU (W.drop (j+1)) lf u)=r at*
        generalize cU (nth W j)=sw at*
        generalize nth W j=w at*
        cases r with
        | none=>
          simp only[Option.map_none,tL,mK,cK]at*
          simp(disch:=omega)only[go_sem,K.cB,↓reduceIte,wg,va,so,co,l2,reduceAdd,reduceSub]
        | some k=>
          have k0:=fr k rfl
          obtain⟨x,hx⟩:=Int.eq_ofNat_of_zero_le k0
          simp only[aLw,tL,mK,cK,hx,Int.toNat_natCast]at*
          generalize lN lf x=lf2 at*
          simp(disch:=omega)only[go_sem,K.cB,↓reduceIte,wg,va,so,co,l2,reduceAdd,reduceSub]
    · simp only[tL,cK]
      simp(disch:=omega)only[go_sem,K.cB,↓reduceIte,reduceAdd,reduceSub]
   obtain⟨o1,o2⟩:=ok W.length
   have e:=o1.len
   clear o1 ok sk
   generalize fZ W S W.length=p at*
   obtain⟨lf,o⟩:=p
   simp only[tL,if_true,List.map_nil,cK]at*
   simp(disch:=omega)only[go_sem,K.aV,↓reduceIte,mo,lt,cl,lp,reduceAdd,reduceSub]
 · rw[Bool.not_eq_true]at hf
   rw[hf]
   have lt:cQ W S<W.length:=by unfold cD at hf;rw[decide_eq_false_iff_not]at hf;omega
   have e:tL (if false=true then(fZ W S W.length).2 else [])= .sl []:=rfl
   rw[e]
   clear e
   simp(disch:=omega)only[go_sem,K.aV,↓reduceIte,mo,lt,reduceAdd,reduceSub]
end Go.Ev
namespace Go.Ev
open Go
def tK(W:List (List Int))(S:List Int)(X:List Nat):Bool:= !cD (aO W X) S
def cG(W:List (List Int))(S:List Int):Nat→List Nat→Nat→Option (List Nat)
 | 0,b,_=>if tK W S b then some b else none
 | k+1,b,next=>match (List.range (W.length-next)).find? (fun j=>(cG W S k (b++[next+j]) (next+j+1)).isSome)with
   | some j=>cG W S k (b++[next+j]) (next+j+1)
   | none=>none
def cI(W:List (List Int))(S:List Int):Option (List Nat):=match (List.range W.length).find? (fun j=>(cG W S (j+1) [] 0).isSome)with
 | some j=>cG W S (j+1) [] 0
 | none=>none
def Bj:List Nat→List Nat→Bool
 | x::a,y::b=>if x=y then Bj a b else decide (x<y)
 | _,_=>false
theorem rC:∀a:List Nat,Bj a a=false
 | []=>rfl
 | x::a=>by rw[Bj,if_pos rfl,rC a]
theorem C9(a x y:List Nat):Bj (a++x) (a++y)=Bj x y:=by
 induction a with
 | nil=>rfl
 | cons z a ih=>rw[List.cons_append,List.cons_append,Bj,if_pos rfl,ih]
structure UpX(n:Nat)(X:List Nat):Prop where
 up:X.Pairwise (· < ·)
 lt:∀x∈X,x<n
theorem fe(W:List (List Int))(S:List Int):∀k b next,(match cG W S k b next with
 | some l=>(∃Y,l=b++Y∧Y.length=k∧UpX W.length Y∧∀y∈Y,next≤y)∧tK W S l=true∧∀Y,Y.length=k→UpX W.length Y→(∀y∈Y,next≤y)→tK W S (b++Y)=true→Bj (b++Y) l=false
 | none=>∀Y,Y.length=k→UpX W.length Y→(∀y∈Y,next≤y)→tK W S (b++Y)=false)
 | 0,b,next=>by
   have nilE:∀Y:List Nat,Y.length=0→b++Y=b:=fun Y h=>by rw[List.length_eq_zero_iff.1 h,List.append_nil]
   rw[cG]
   by_cases c:tK W S b=true
   · rw[if_pos c]
     exact⟨⟨[],by simp,rfl,⟨by simp,by simp⟩,by simp⟩,c,fun Y h _ _ _=>by rw[nilE Y h];exact rC b⟩
   · rw[if_neg c]
     intro Y h _ _
     rw[nilE Y h];simpa using c
 | k+1,b,next=>by
   have ih:=fun j=>fe W S k (b++[next+j]) (next+j+1)
   have cut:∀Y:List Nat,Y.length=k+1→UpX W.length Y→(∀y∈Y,next≤y)→∃j Z,Y=(next+j)::Z∧j<W.length-next∧Z.length=k∧UpX W.length Z∧∀y∈Z,next+j+1≤y:=fun Y h1 h2 h3=>by
    cases Y with
    | nil=>simp at h1
    | cons y Z=>
      have a:=h3 y List.mem_cons_self
      have b:=h2.lt y List.mem_cons_self
      obtain⟨u1,u2⟩:=List.pairwise_cons.1 h2.up
      refine⟨y-next,Z,by rw[show next+(y-next)=y by omega],by omega,by simpa using h1,⟨u2,fun x hx=>h2.lt x (List.mem_cons_of_mem _ hx)⟩,fun z hz=>?_⟩
      have:=u1 z hz
      omega
   rw[cG]
   cases hf:(List.range (W.length-next)).find? (fun j=>(cG W S k (b++[next+j]) (next+j+1)).isSome)with
   | none=>
     simp only
     intro Y h1 h2 h3
     obtain⟨j,Z,rfl,jl,z1,z2,z3⟩:=cut Y h1 h2 h3
     have no:=List.find?_eq_none.1 hf j (aLu.2 jl)
     have i:=ih j
     cases hp:cG W S k (b++[next+j]) (next+j+1)with
     | some l=>rw[hp]at no;simp at no
     | none=>
       rw[hp]at i
       have:=i Z z1 z2 z3
       rw[List.append_assoc]at this
       exact this
   | some j=>
     simp only
     obtain⟨f1,f2,f3⟩:=List.find?_range_eq_some.1 hf
     have jl:=aLu.1 f2
     have i:=ih j
     cases hp:cG W S k (b++[next+j]) (next+j+1)with
     | none=>rw[hp]at f1;simp at f1
     | some l=>
       rw[hp]at i
       simp only at i ⊢
       obtain⟨⟨Y,e,y1,y2,y3⟩,bd,mn⟩:=i
       refine⟨⟨(next+j)::Y,by rw[e,List.append_assoc];rfl,by simp[y1],⟨List.pairwise_cons.2 ⟨fun z hz=>by have:=y3 z hz;omega,y2.up⟩,fun x hx=>?_⟩,fun x hx=>?_⟩,bd,fun X h1 h2 h3 hb=>?_⟩
       · rcases List.mem_cons.1 hx with rfl | hx
         · omega
         · exact y2.lt x hx
       · rcases List.mem_cons.1 hx with rfl | hx
         · omega
         · have:=y3 x hx;omega
       · obtain⟨i,Z,rfl,il,z1,z2,z3⟩:=cut X h1 h2 h3
         rcases Nat.lt_trichotomy i j with q | q | q
         · have no:=f3 i q
           have ii:=ih i
           cases hq:cG W S k (b++[next+i]) (next+i+1)with
           | some l2=>rw[hq]at no;simp at no
           | none=>
             rw[hq]at ii
             have:=ii Z z1 z2 z3
             rw[List.append_assoc,show [next+i]++Z=(next+i)::Z from rfl,hb]at this
             exact absurd this (by simp)
         · subst q
           have:=mn Z z1 z2 z3 (by rw[List.append_assoc];exact hb)
           rw[List.append_assoc]at this
           exact this
         · rw[e,List.append_assoc,C9]
           show Bj ((next+i)::Z) ((next+j)::Y)=false
           rw[Bj,if_neg (by omega)]
           simp;omega
theorem tM{W:List (List Int)}{S:List Int}(h:cI W S=none){X:List Nat}(hx:X≠[])(u:UpX W.length X)(hl:X.length≤W.length):tK W S X=false:=by
 have l0:0<X.length:=List.length_pos_iff.2 hx
 unfold cI at h
 cases hf:(List.range W.length).find? (fun j=>(cG W S (j+1) [] 0).isSome)with
 | some j=>
   rw[hf]at h
   have:=List.find?_some hf
   simp only at h this
   rw[h]at this
   simp at this
 | none=>
   have no:=List.find?_eq_none.1 hf (X.length-1) (aLu.2 (by omega))
   have sp:=fe W S (X.length-1+1) [] 0
   cases hp:cG W S (X.length-1+1) [] 0 with
   | some l=>rw[hp]at no;simp at no
   | none=>
     rw[hp]at sp
     exact sp X (by omega) u (fun _ _=>Nat.zero_le _)
theorem dG{W:List (List Int)}{S:List Int}{l:List Nat}(h:cI W S=some l):l≠[]∧UpX W.length l∧l.length≤W.length∧tK W S l=true∧
 (∀X,X≠[]→UpX W.length X→X.length<l.length→tK W S X=false)∧∀X,UpX W.length X→X.length=l.length→tK W S X=true→Bj X l=false:=by
 unfold cI at h
 cases hf:(List.range W.length).find? (fun j=>(cG W S (j+1) [] 0).isSome)with
 | none=>rw[hf]at h;simp at h
 | some j=>
   rw[hf]at h
   simp only at h
   obtain⟨f1,f2,f3⟩:=List.find?_range_eq_some.1 hf
   have jl:=aLu.1 f2
   have sp:=fe W S (j+1) [] 0
   rw[h]at sp
   obtain⟨⟨Y,e,y1,y2,y3⟩,bd,mn⟩:=sp
   rw[List.nil_append]at e
   subst e
   refine⟨fun e=>by rw[e]at y1;simp at y1,y2,by omega,bd,fun X hx hu hl=>?_,fun X hu hl hb=>mn X (by omega) hu (fun _ _=>Nat.zero_le _) hb⟩
   have l0:0<X.length:=List.length_pos_iff.2 hx
   have no:=f3 (X.length-1) (by omega)
   have sp:=fe W S (X.length-1+1) [] 0
   cases hp:cG W S (X.length-1+1) [] 0 with
   | some l=>rw[hp]at no;simp at no
   | none=>
     rw[hp]at sp
     exact sp X (by omega) hu (fun _ _=>Nat.zero_le _)
end Go.Ev
namespace Go.Ev
open Go
variable [Lib] [aL] [aN] [bF] [bJ] [cT] [bL] [bM] [cC] [cA] [aZ] [a7] [bX] [bY] [gr] [gu] [iq] [gR] [ir] [eK] [dy] [jR]
abbrev cN(X:List Nat):List Int:=X.map fun(i:Nat)=>(i:Int)
theorem rD(H:ab)(es:List T):jM H (.cl es,[])=some (.cl es,H):=by simp[jM,rh,ren,depth,aE]
theorem JF(l:List Int):bV 1 N.aH [.t (tL l)] []=some (.cl (l.map (.int .i64)),[]):=by
 refine bS K.cY rfl ?_
 have s3:evO bV (X.get [.t (tL l),.nil] [I l.length,.t (tL l),I l.length,.t (tL l),.t (tL l)]) [] (.s3 (.l 4) (.l 2) (.l 0))=some (.cl (l.map (.int .i64)),[]):=by
  simp only[evO,X.get,List.getElem?_cons_succ,List.getElem?_cons_zero,aLq,intOf,Bk,tL,List.length_map,and_self,if_true,aLw]
 simp only[tL]at*
 have od:old 0 8 (.cl (l.map (Ev.T.int .i64)))=true:=rfl
 simp(disch:=omega)only[go_sem,K.aH,↓reduceIte,s3,od,reduceAdd,reduceSub]
theorem rE(H:ab)(l:List Int)(x:Int)(h:l.length≤1000):fN H 1 true (some (.cl (l.map (Ev.T.int .i64)))) (some (.t (.sl [Ev.T.int .i64 x])))=some (.ref H.length 0 (l.length+1),H++[.arr 1 false 0 ((l.map (Ev.T.int .i64)).map .t++[I x])]):=by
 have hs:aJ 1 ((l.map (Ev.T.int .i64)).map D.t)=true:=by cases l<;>rfl
 simp only[fN,aLq,eD,elems,List.map_cons,List.map_nil,aE,frz,if_true,aLw,List.flatMap_cons,List.flatMap_nil,bH,pins,List.append_nil,List.length_map,aLv,List.length_singleton]
 rw[if_pos (show aJ 1 [D.t (T.int IntKind.i64 x)]=true from rfl),if_pos ⟨by omega,by unfold lim;omega,hs⟩]
 rfl
theorem je(H:ab)(x:T)(xs:List T):ib H .sl true (some (.t (.sl (x::xs)))) (some .nil)=some (B true,H):=rfl
abbrev qt:Option (List Nat)→D
 | some l=> .t (tL (cN l))
 | none=> .nil
theorem JG{W:List (List Int)}{S:List Int}(hW:W.length≤12)(hS:S.length≤1000)(hl:∀i,(nth W i).length≤1000000){size:Nat}(sz:size≤12)(s0:0<size):∀(k:Nat) (b:List Nat) (next:Nat),b.length+k=size→(∀x∈b,x<W.length)→next≤W.length→
 bV 1 N.aW [.t (.sl (W.map tL)),.t (tL S),.t (tL (cN b)),I next,I size] []=some (qt (cG W S k b next),[]):=by
 intro k
 induction k with
 | zero=>
   intro b next hb hm hn
   refine bS K.eW rfl ?_
   have cl:(cN b).length=size:=by rw[List.length_map];omega
   have pm:(aO W b).length=size:=by rw[List.length_map];omega
   have mo:=(gQ (W:=aO W b) (S:=S) (by omega) hS (fun i=>mW hl b i)).1
   have pk:cG W S 0 b next=if cQ (aO W b) S<size then some b else none:=by
    obtain⟨-,c,e, -,cw⟩:=gQ (W:=aO W b) (S:=S) (by omega) hS (fun i=>mW hl b i)
    rw[cG]
    unfold tK cD
    rw[pm]
    by_cases h:cQ (aO W b) S<size
    · rw[if_pos h,decide_eq_false (by omega)];rfl
    · rw[if_neg h,decide_eq_true (by omega)];rfl
   rw[pk]
   have lp:∀z3 z5 z7 z8 z9:D,exS bV K.jA ⟨[.t (.sl (W.map tL)),.t (tL S),.t (tL (cN b)),z3,I size,z5,.ref 0 0 0,z7,z8,z9,.t (tL (cN b)),I size,I 0],[.arr 1 false 0 []]⟩=
    some (.exit 0,⟨[.t (.sl (W.map tL)),.t (tL S),.t (tL (cN b)),.und,I size,.und,.ref 0 0 size,.und,.und,.und,.t (tL (cN b)),I size,I size],[.arr 1 false 0 (((aO W b).map tL).map .t)]⟩):=by
    intro z3 z5 z7 z8 z9
    refine ec (fun j=>⟨[.t (.sl (W.map tL)),.t (tL S),.t (tL (cN b)),.und,I size,.und,.ref 0 0 j,.und,.und,.und,.t (tL (cN b)),I size,I j],[.arr 1 false 0 (((aO W (b.take j)).map tL).map .t)]⟩) size rfl ?_ ?_ (by simp)
    · intro j hj
      have bg:=cO (l:=cN b) (Ev.T.int .i64) (j:=j) (by omega)
      have jb:j<b.length:=by omega
      have nb:nth (cN b) j=((nth b j:Nat):Int):=by
       unfold nth
       rw[aLl,aLl,aLn,aLc jb];rfl
      have bm:nth b j<W.length:=hm _ (dE jb)
      have wg:=cO (l:=W) tL bm
      have tk:aO W (b.take (j+1))=aO W (b.take j)++[nth W (nth b j)]:=by
       rw[pX jb];simp[aO]
      have rl:(aO W (b.take j)).length=j:=by rw[List.length_map,List.length_take];omega
      rw[nb]at bg
      rw[tk]
      clear mo pk pm tk nb
      generalize aO W (b.take j)=R at*
      generalize nth b j=x at*
      generalize nth W x=y at*
      subst rl
      generalize cN b=cb at*
      subst cl
      simp only[tL]at*
      simp(disch:=omega)only[go_sem,K.fv,↓reduceIte,bg,wg,reduceAdd,reduceSub]
    · rw[List.take_of_length_le (by omega)]
      clear mo pk
      generalize cN b=cb at*
      subst cl
      simp only[tL]at*
      simp(disch:=omega)only[go_sem,K.fv,↓reduceIte,reduceAdd,reduceSub]
   generalize aO W b=R at*
   by_cases c:cQ R S<size
   · rw[if_pos c]
     show _=some (D.t (tL (cN b)),[])
     generalize cN b=cb at*
     clear pk
     subst cl
     simp only[tL]at*
     simp(disch:=omega)only[go_sem,K.aW,↓reduceIte,lp,mo,c,reduceAdd,reduceSub]
   · rw[if_neg c]
     show _=some (D.nil,[])
     have lw:∀z3 z5 z7 z8 z9:D,exS bV K.ef ⟨[.t (.sl (W.map tL)),.t (tL S),.t (tL (cN b)),z3,I size,z5,.ref 0 0 0,z7,z8,z9,.t (tL (cN b)),I size,I 0],[.arr 1 false 0 []]⟩=exS bV K.ef ⟨[.t (.sl (W.map tL)),.t (tL S),.t (tL (cN b)),z3,I size,z5,.ref 0 0 0,z7,z8,z9,.t (tL (cN b)),I size,I 0],[.arr 1 false 0 []]⟩:=fun _ _ _ _ _=>rfl
     generalize cN b=cb at*
     clear pk lw
     subst cl
     simp only[tL]at*
     simp(disch:=omega)only[go_sem,K.aW,↓reduceIte,lp,mo,c,reduceAdd,reduceSub]
 | succ k ih=>
   intro b next hb hm hn
   refine bS K.eW rfl ?_
   have cl:(cN b).length=b.length:=List.length_map _
   have ne:¬(b.length:Int)=(size:Int):=by omega
   have cp:=JF (cN b)
   have rc:∀j,j<W.length-next→bV 1 N.aW [.t (.sl (W.map tL)),.t (tL S),.t (.sl ((cN b).map (Ev.T.int .i64)++[tI (next+j:Nat)])),I ((next+j+1:Nat):Int),I size] []=some (qt (cG W S k (b++[next+j]) (next+j+1)),[]):=fun j hj=>by
    have:=ih (b++[next+j]) (next+j+1) (by rw[aLv,List.length_singleton];omega) (fun x hx=>by
     rcases List.mem_append.1 hx with h | h
     · exact hm x h
     · rw[List.mem_singleton.1 h];omega) (by omega)
    simp only[tL,cN,List.map_append,List.map_cons,List.map_nil]at this ⊢
    exact this
   have lp:∀z3 z5 z6 z7 z9 z10 z11 z12:D,exS bV K.ef ⟨[.t (.sl (W.map tL)),.t (tL S),.t (tL (cN b)),z3,I size,z5,z6,z7,I next,z9,z10,z11,z12],[]⟩=
    some (match (List.range (W.length-next)).find? (fun j=>(cG W S k (b++[next+j]) (next+j+1)).isSome)with
     | some j=>(.ret,⟨[.t (.sl (W.map tL)),.t (tL S),.t (tL (cN b)),.und,I size,qt (cG W S k (b++[next+j]) (next+j+1)),.und,.und,I (next+j:Nat),qt (cG W S k (b++[next+j]) (next+j+1)),.und,.und,.und],[.arr 1 true 0 (ints (cN b)++[I (next+j:Nat)])]⟩)
     | none=>(.exit 2,⟨[.t (.sl (W.map tL)),.t (tL S),.t (tL (cN b)),.und,I size,.und,.und,.und,I W.length,.und,.und,.und,.und],[]⟩)):=by
    intro z3 z5 z6 z7 z9 z10 z11 z12
    refine i7 (fun j=>⟨[.t (.sl (W.map tL)),.t (tL S),.t (tL (cN b)),.und,I size,.und,.und,.und,I (next+j:Nat),.und,.und,.und,.und],[]⟩) (W.length-next) _ (fun j=>(.ret,⟨[.t (.sl (W.map tL)),.t (tL S),.t (tL (cN b)),.und,I size,qt (cG W S k (b++[next+j]) (next+j+1)),.und,.und,I (next+j:Nat),qt (cG W S k (b++[next+j]) (next+j+1)),.und,.und,.und],[.arr 1 true 0 (ints (cN b)++[I (next+j:Nat)])]⟩)) _ rfl ?_ ?_ ?_ (by simp)
    · intro j hj hp
      have r:=rc j hj
      cases hx:cG W S k (b++[next+j]) (next+j+1)with
      | some l=>rw[hx]at hp;simp at hp
      | none=>
        rw[hx]at r
        simp only[qt]at r
        rw[show next+(j+1)=next+j+1 by omega]
        have nj:next+j<W.length:=by omega
        have e1:((next+j+1:Nat):Int)=((next+j:Nat):Int)+1:=by omega
        rw[e1]at r ⊢
        generalize next+j=x at*
        clear rc ih hx hp ne
        generalize cN b=cb at*
        have oa:=fun H x=>rE H cb x (by omega)
        simp only[tL]at*
        simp(disch:=omega)only[go_sem,K.dT,↓reduceIte,cp,r,oa,jd,rD,gv,je,reduceAdd,reduceSub]
    · intro j hj hp
      have r:=rc j hj
      cases hx:cG W S k (b++[next+j]) (next+j+1)with
      | none=>rw[hx]at hp;simp at hp
      | some l=>
        have l0:∃y Y,cN l=y::Y:=by
         have sp:=fe W S k (b++[next+j]) (next+j+1)
         rw[hx]at sp
         obtain⟨⟨Y,rfl, -⟩, -⟩:=sp
         cases b with
         | nil=>exact⟨_,_,rfl⟩
         | cons z b=>exact⟨_,_,rfl⟩
        rw[hx]at r
        simp only[qt]at r ⊢
        obtain⟨y,Y,e⟩:=l0
        rw[e]at r ⊢
        have nj:next+j<W.length:=by omega
        have e1:((next+j+1:Nat):Int)=((next+j:Nat):Int)+1:=by omega
        rw[e1]at r
        refine⟨?_,by simp⟩
        generalize next+j=x at*
        clear rc ih hx hp ne
        generalize cN b=cb at*
        have oa:=fun H x=>rE H cb x (by omega)
        simp only[tL,ints,List.map_cons]at*
        simp(disch:=omega)only[go_sem,K.dT,↓reduceIte,cp,r,oa,jd,rD,gv,je,reduceAdd,reduceSub]
    · have:next+(W.length-next)=W.length:=by omega
      rw[this]
      clear rc ih cp ne
      simp only[tL]at*
      simp(disch:=omega)only[go_sem,K.dT,↓reduceIte,reduceAdd,reduceSub]
   rw[cG]
   cases hf:(List.range (W.length-next)).find? (fun j=>(cG W S k (b++[next+j]) (next+j+1)).isSome)with
   | none=>
     simp only[hf]at lp
     simp only[qt]
     clear rc ih cp hf
     generalize cN b=cb at*
     rw[← cl]at ne
     simp only[tL]at*
     simp(disch:=omega)only[go_sem,K.aW,↓reduceIte,lp,ne,reduceAdd,reduceSub]
   | some j=>
     simp only[hf]at lp
     have hp:=List.find?_some hf
     cases hx:cG W S k (b++[next+j]) (next+j+1)with
     | none=>rw[hx]at hp;simp at hp
     | some l=>
       rw[hx]at lp
       simp only[qt]at lp ⊢
       rw[hx]
       simp only
       clear rc ih cp hf hp hx
       generalize cN b=cb at*
       rw[← cl]at ne
       simp only[tL,ints]at*
       simp(disch:=omega)only[go_sem,K.aW,↓reduceIte,lp,ne,reduceAdd,reduceSub]
theorem An{W:List (List Int)}{S:List Int}(hW:W.length≤12)(hS:S.length≤1000)(hl:∀i,(nth W i).length≤1000000):
 bV 0 N.bu [.t (.sl (W.map tL)),.t (tL S)] []=some (.t (tL (cN ((cI W S).getD []))),[]):=by
 refine bS K.fT rfl ?_
 have rc:∀j,j<W.length→bV 1 N.aW [.t (.sl (W.map tL)),.t (tL S),.t (.sl []),I 0,I ((j:Int)+1)] []=some (qt (cG W S (j+1) [] 0),[]):=fun j hj=>by
  have:=JG hW hS hl (size:=j+1) (by omega) (by omega) (j+1) [] 0 (by simp) (by simp) (Nat.zero_le _)
  rw[show((j+1:Nat):Int)=(j:Int)+1 by omega]at this
  exact this
 have lp:∀z2 z4:D,exS bV K.iS ⟨[.t (.sl (W.map tL)),.t (tL S),z2,I 1,z4],[]⟩=
  some (match (List.range W.length).find? (fun j=>(cG W S (j+1) [] 0).isSome)with
   | some j=>(.ret,⟨[.t (.sl (W.map tL)),.t (tL S),qt (cG W S (j+1) [] 0),I ((j:Int)+1),qt (cG W S (j+1) [] 0)],[]⟩)
   | none=>(.exit 0,⟨[.t (.sl (W.map tL)),.t (tL S),.und,I ((W.length:Int)+1),.und],[]⟩)):=by
  intro z2 z4
  refine i7 (fun j=>⟨[.t (.sl (W.map tL)),.t (tL S),.und,I ((j:Int)+1),.und],[]⟩) W.length _ (fun j=>(.ret,⟨[.t (.sl (W.map tL)),.t (tL S),qt (cG W S (j+1) [] 0),I ((j:Int)+1),qt (cG W S (j+1) [] 0)],[]⟩)) _ rfl ?_ ?_ ?_ (by simp)
  · intro j hj hp
    have r:=rc j hj
    cases hx:cG W S (j+1) [] 0 with
    | some l=>rw[hx]at hp;simp at hp
    | none=>
      rw[hx]at r
      simp only[qt,tL]at*
      have mn:((j:Int)+1≤min (W.length:Int) 12):=by omega
      clear rc
      simp(disch:=omega)only[go_sem,K.dB,↓reduceIte,r,mn,jd,gv,je,reduceAdd,reduceSub]
  · intro j hj hp
    have r:=rc j hj
    cases hx:cG W S (j+1) [] 0 with
    | none=>rw[hx]at hp;simp at hp
    | some l=>
      have l0:∃y Y,cN l=y::Y:=by
       have sp:=fe W S (j+1) [] 0
       rw[hx]at sp
       obtain⟨⟨Y,e,y1, -⟩, -⟩:=sp
       rw[List.nil_append]at e
       rw[e]
       cases Y with
       | nil=>simp at y1
       | cons z b=>exact⟨_,_,rfl⟩
      obtain⟨y,Y,e⟩:=l0
      rw[hx]at r
      simp only[qt,tL]at*
      rw[e]at r ⊢
      have mn:((j:Int)+1≤min (W.length:Int) 12):=by omega
      refine⟨?_,by simp⟩
      clear rc
      simp only[List.map_cons]at*
      simp(disch:=omega)only[go_sem,K.dB,↓reduceIte,r,mn,jd,gv,je,reduceAdd,reduceSub]
  · have mn:¬((W.length:Int)+1≤min (W.length:Int) 12):=by omega
    clear rc
    simp only[tL]at*
    simp(disch:=omega)only[go_sem,K.dB,↓reduceIte,mn,reduceAdd,reduceSub]
 unfold cI
 cases hf:(List.range W.length).find? (fun j=>(cG W S (j+1) [] 0).isSome)with
 | none=>
   simp only[hf]at lp
   show _=some (D.t (.sl []),[])
   clear rc hf
   simp only[tL]at*
   simp(disch:=omega)only[go_sem,K.bu,↓reduceIte,lp,reduceAdd,reduceSub]
 | some j=>
   simp only[hf]at lp
   have hp:=List.find?_some hf
   cases hx:cG W S (j+1) [] 0 with
   | none=>rw[hx]at hp;simp at hp
   | some l=>
     simp only[hx,qt]at lp
     simp only[hx,Option.getD_some]
     clear rc hf hp hx
     generalize cN l=cb at*
     simp only[tL]at*
     simp(disch:=omega)only[go_sem,K.bu,↓reduceIte,lp,reduceAdd,reduceSub]
theorem E5(a:List Nat)(j:Nat)(h:j<a.length):nth (cN a) j=((nth a j:Nat):Int):=by
 unfold nth
 rw[aLl,aLl,aLn,aLc h];rfl
structure WB(W:List (List Int))(S:List Int):Prop where
 w:W.length≤12
 s:S.length≤1000
 l:∀i,(nth W i).length≤100000
theorem WB.l2{W:List (List Int)}{S:List Int}(h:WB W S)(i:Nat):(nth W i).length≤1000000:=by have:=h.l i;omega
theorem tN{W:List (List Int)}{S:List Int}(h:WB W S):∃c:Nat,cQ W S=c∧uJ W S c∧c≤W.length:=(gQ h.w h.s h.l2).2
theorem qj{W:List (List Int)}{S:List Int}(h:WB W S):cD W S=true↔∃G,AN W S G∧(gA G).length=W.length:=by
 obtain⟨c,e,⟨⟨G,a,b⟩,u⟩,cl⟩:=tN h
 unfold cD
 rw[decide_eq_true_iff,e]
 constructor
 · intro k;exact⟨G,a,by omega⟩
 · rintro ⟨G2,a2,b2⟩
   have:=u _ a2
   omega
theorem WB.tail{w:List Int}{R:List (List Int)}{S S2:List Int}(h:WB (w::R) S)(e:S2.length=S.length):WB R S2:=
 ⟨by have:=h.w;simp only[List.length_cons]at this;omega,by have:=h.s;omega,fun i=>h.l (i+1)⟩
theorem Da(f:List Int→List Int)(h0:f []=[])(G:List (List Int))(n:Nat):nth (G.map f) n=f (nth G n):=by
 by_cases c:n<G.length
 · unfold nth;rw[aLl,aLn,aLc c,aLl,aLc c];rfl
 · rw[kI (by rw[List.length_map];exact c),kI c,h0]
theorem Ao{w:List Int}{R:List (List Int)}{S:List Int}{G:List (List Int)}(h:AN (w::R) S G)(full:(gA G).length=(w::R).length):
 ∃s,s<S.length∧(s:Int)∈w∧0<nth S s∧∃G2,AN R (lN S s) G2∧(gA G2).length=R.length:=by
 have gl:=h.len
 simp only[List.length_cons]at full
 have bd:∀x∈gA G,0≤x∧x<(R.length:Int)+1:=fun x hx=>by
  obtain⟨n,hn, -,hm⟩:=gY.1 hx
  obtain⟨a,b, -⟩:=h.wnt n (by omega) x hm
  simp only[List.length_cons]at b
  omega
 have h0:(0:Int)∈gA G:=by
  refine Classical.byContradiction fun no=>?_
  have:=bD (b:=(List.range R.length).map fun(i:Nat)=>(i:Int)+1) h.nd fun x hx=>by
   obtain⟨a,b⟩:=bd x hx
   have:x≠0:=fun e=>no (by rw[← e];exact hx)
   exact List.mem_map.2 ⟨(x-1).toNat,aLu.2 (by omega),by omega⟩
  simp only[List.length_map,List.length_range]at this
  omega
 obtain⟨s,sl, -,hs⟩:=gY.1 h0
 obtain⟨-, -,sw⟩:=h.wnt s (by omega) 0 hs
 have cp:=h.cap s (by omega) (List.ne_nil_of_mem hs)
 have lp:=List.length_pos_of_mem hs
 refine⟨s,by omega,sw,by omega,G.map fun l=>(l.filter fun x=>decide (x≠0)).map fun x=>x-1,?_⟩
 have ng:∀n,nth (G.map fun l=>(l.filter fun x=>decide (x≠0)).map fun x=>x-1) n=((nth G n).filter fun x=>decide (x≠0)).map fun x=>x-1:=fun n=>Da (fun l=>(l.filter fun x=>decide (x≠0)).map fun x=>x-1) rfl G n
 have al:gA (G.map fun l=>(l.filter fun x=>decide (x≠0)).map fun x=>x-1)=((gA G).filter fun x=>decide (x≠0)).map fun x=>x-1:=by
  rw[du,du,List.filter_flatten,List.map_flatten,List.map_map]
  congr 1
 have nd2:(((gA G).filter fun x=>decide (x≠0)).map fun x=>x-1).Nodup:=by
  rw[List.Nodup,List.pairwise_map]
  exact(h.nd.filter _).imp fun{a b} k e=>k (by omega)
 refine⟨⟨⟨by unfold lN;rw[List.length_map,List.length_set,gl],fun n hn hne=>?_,fun n hn i hi=>?_⟩,by rw[al];exact nd2⟩,?_⟩
 · rw[ng]at hne ⊢
   rw[List.length_map]
   have fl:=List.length_filter_le (fun x:Int=>decide (x≠0)) (nth G n)
   unfold lN at*
   rw[List.length_set]at hn
   by_cases e:s=n
   · subst e
     rw[cZ (by omega)]
     have:((nth G s).filter fun x:Int=>decide (x≠0)).length<(nth G s).length:=by
      refine Nat.lt_of_le_of_ne fl fun e=>?_
      have:=List.length_filter_eq_length_iff.1 e 0 hs
      simp at this
     omega
   · rw[ed e]
     have:=h.cap n hn fun e=>hne (by rw[e];rfl)
     omega
 · rw[ng]at hi
   unfold lN at hn
   rw[List.length_set]at hn
   obtain⟨x,hx,rfl⟩:=List.mem_map.1 hi
   obtain⟨x1,x2⟩:=List.mem_filter.1 hx
   rw[decide_eq_true_iff]at x2
   obtain⟨a,b,c⟩:=h.wnt n hn x x1
   simp only[List.length_cons]at b
   obtain⟨y,hy⟩:∃y:Nat,x=(y:Int)+1:=⟨(x-1).toNat,by omega⟩
   subst hy
   refine⟨by omega,by omega,?_⟩
   have e1:((y:Int)+1).toNat=y+1:=by omega
   have e2:((y:Int)+1-1).toNat=y:=by omega
   rw[e1]at c
   rw[e2]
   exact c
 · rw[al,List.length_map]
   have a1:=bD (b:=0::(gA G).filter fun x=>decide (x≠0)) h.nd fun x hx=>by
    by_cases e:x=0
    · subst e;exact List.mem_cons_self
    · exact List.mem_cons_of_mem _ (List.mem_filter.2 ⟨hx,by simpa using e⟩)
   have a2:((gA G).filter fun x:Int=>decide (x≠0)).length<(gA G).length:=by
    refine Nat.lt_of_le_of_ne (List.length_filter_le _ _) fun e=>?_
    have:=List.length_filter_eq_length_iff.1 e 0 h0
    simp at this
   simp only[List.length_cons]at a1
   omega
theorem Aq{w:List Int}{R:List (List Int)}{S:List Int}(hb:WB (w::R) S)(h:cD (w::R) S=true):∃s,kK R w S=some s:=by
 obtain⟨G,a,b⟩:=(qj hb).1 h
 obtain⟨s,s1,s2,s3,G2,g1,g2⟩:=Ao a b
 have f2:=(qj (hb.tail (S2:=lN S s) (by unfold lN;rw[List.length_set]))).2 ⟨G2,g1,g2⟩
 cases hl:kK R w S with
 | some s=>exact⟨s,rfl⟩
 | none=>
   have:=List.find?_eq_none.1 hl s (aLu.2 s1)
   exact absurd (by unfold okS;rw[decide_eq_true s2,decide_eq_true s3,f2];rfl) this
theorem drop_cons{W:List (List Int)}{i:Nat}(h:i<W.length):W.drop i=nth W i::W.drop (i+1):=by
 rw[List.drop_eq_getElem_cons h]
 congr 1
 unfold nth
 rw[aLl,aLc h];rfl
theorem mY{W:List (List Int)}{S:List Int}(hb:WB W S)(h:cD W S=true):∀i,i≤W.length→(fZ W S i).1.length=S.length∧(fZ W S i).2.length=i∧cD (W.drop i) (fZ W S i).1=true∧
 ∀k,k<i→∃s:Nat,s<S.length∧nth (fZ W S i).2 k=s∧(s:Int)∈nth W k∧0<nth (fZ W S k).1 s∧(fZ W S (k+1)).1=lN (fZ W S k).1 s
 | 0,_=>⟨rfl,rfl,h,fun k hk=>by omega⟩
 | i+1,hi=>by
   obtain⟨a,b,c,d⟩:=mY hb h i (by omega)
   rw[drop_cons (by omega)]at c
   have hb2:WB (nth W i::W.drop (i+1)) (fZ W S i).1:=by
    refine⟨?_,by rw[a];exact hb.s,fun j=>?_⟩
    · have:=hb.w;simp only[List.length_cons,List.length_drop];omega
    · rw[← drop_cons (by omega),vA];exact hb.l _
   obtain⟨s,hs⟩:=Aq hb2 c
   obtain⟨s1,s2⟩:=n5 hs
   obtain⟨p1,p2,p3⟩:=Aa s2
   have e:fZ W S (i+1)=(lN (fZ W S i).1 s,(fZ W S i).2++[(s:Int)]):=by rw[fZ,hs]
   rw[e]
   refine⟨by unfold lN;rw[List.length_set,a],by simp[b],p3,fun k hk=>?_⟩
   simp only
   by_cases q:k=i
   · subst q
     refine⟨s,by omega,?_,p1,p2,by rw[e]⟩
     unfold nth
     rw[aLl,aLh (by omega),show k-(fZ W S k).2.length=0 by omega];rfl
   · obtain⟨t,t1,t2,t3⟩:=d k (by omega)
     refine⟨t,t1,?_,t3⟩
     rw[← t2]
     unfold nth
     rw[aLl,aLg (by omega),aLl]
def fA(m:Nat)(l:List Int):Nat→List Int
 | 0=>List.replicate m 0
 | i+1=>(fA m l i).set (nth l i).toNat (nth (fA m l i) (nth l i).toNat+1)
theorem oh(m:Nat)(l:List Int):∀i,(fA m l i).length=m
 | 0=>by simp[fA]
 | i+1=>by rw[fA,List.length_set,oh m l i]
theorem Db(n:Nat)(x:Int)(j:Nat):j<n→nth (List.replicate n x) j=x:=fun h=>by
 unfold nth
 rw[aLl,List.getElem?_replicate,if_pos h];rfl
theorem rF{W:List (List Int)}{S:List Int}(hb:WB W S)(h:cD W S=true):∀i,i≤W.length→∀s,s<S.length→nth (fA S.length (fZ W S W.length).2 i) s=nth S s-nth (fZ W S i).1 s∧0≤nth (fA S.length (fZ W S W.length).2 i) s∧nth (fA S.length (fZ W S W.length).2 i) s≤i
 | 0,_,s,hs=>by
   show nth (List.replicate S.length (0:Int)) s=nth S s-nth S s∧0≤nth (List.replicate S.length (0:Int)) s∧nth (List.replicate S.length (0:Int)) s≤(0:Nat)
   rw[Db _ _ _ hs];omega
 | i+1,hi,s,hs=>by
   obtain⟨-, -, -,d⟩:=mY hb h W.length (aLs _)
   obtain⟨t,t1,t2,t3,t4,t5⟩:=d i (by omega)
   obtain⟨u1,u2,u3⟩:=rF hb h i (by omega) s hs
   have al:=(mY hb h i (by omega)).1
   rw[fA,t2,Int.toNat_natCast,t5]
   unfold lN
   by_cases e:t=s
   · subst e
     rw[cZ (by rw[oh];exact hs),cZ (by omega)]
     omega
   · rw[ed e,ed e]
     omega
theorem vD{G:List (List Int)}{q:Nat}{x:List Int}(h:q<G.length)(n:Nat):nth (G.set q x) n=if q=n then x else nth G n:=by
 unfold nth
 rw[aLl,aLl,List.getElem?_set]
 by_cases c:q=n
 · subst c;rw[if_pos rfl,if_pos h,if_pos rfl];rfl
 · rw[if_neg c,if_neg c]
theorem rG{G:List (List Int)}{q:Nat}{x:List Int}(h:q<G.length):G.set q x=G.take q++x::G.drop (q+1):=by
 rw[List.set_eq_take_append_cons_drop,if_pos h]
theorem pc{G:List (List Int)}{q:Nat}(h:q<G.length):G=G.take q++nth G q::G.drop (q+1):=by
 rw[← drop_cons h,List.take_append_drop]
theorem Ar{W:List (List Int)}{S:List Int}(hb:WB W S){q:Nat}(hq:q<S.length):cQ W S≤cQ W (S.set q (nth S q+1))∧cQ W (S.set q (nth S q+1))≤cQ W S+1:=by
 have hb2:WB W (S.set q (nth S q+1)):=⟨hb.w,by rw[List.length_set];exact hb.s,hb.l⟩
 obtain⟨c,e,⟨⟨G,a,b⟩,u⟩, -⟩:=tN hb
 obtain⟨c2,e2,⟨⟨G2,a2,b2⟩,u2⟩, -⟩:=tN hb2
 rw[e,e2]
 constructor
 · have:=u2 G ⟨⟨by rw[List.length_set];exact a.len,fun n hn hne=>?_,fun n hn=>?_⟩,a.nd⟩
   · omega
   · rw[List.length_set]at hn
     have:=a.cap n hn hne
     by_cases k:q=n
     · subst k;rw[cZ hq];omega
     · rw[ed k];exact this
   · rw[List.length_set]at hn;exact a.wnt n hn
 · have gl:=a2.len
   rw[List.length_set]at gl
   have ql:q<G2.length:=by omega
   have sub:List.Sublist (G2.set q (nth G2 q).tail).flatten G2.flatten:=by
    have e1:=rG (x:=(nth G2 q).tail) ql
    have e2:=pc ql
    rw[e1]
    have e3:G2.flatten=(G2.take q++nth G2 q::G2.drop (q+1)).flatten:=by rw[← e2]
    rw[e3]
    simp only[List.flatten_append,List.flatten_cons]
    exact(List.Sublist.refl _).append ((List.tail_sublist _).append (List.Sublist.refl _))
   have ln:G2.flatten.length≤(G2.set q (nth G2 q).tail).flatten.length+1:=by
    have e1:=rG (x:=(nth G2 q).tail) ql
    have e2:=pc ql
    rw[e1]
    have e3:G2.flatten=(G2.take q++nth G2 q::G2.drop (q+1)).flatten:=by rw[← e2]
    rw[e3]
    simp only[List.flatten_append,List.flatten_cons,aLv,List.length_tail]
    omega
   have:=u (G2.set q (nth G2 q).tail) ⟨⟨by rw[List.length_set];exact gl,fun n hn hne=>?_,fun n hn i hi=>?_⟩,by rw[du];exact List.Nodup.sublist sub (by rw[← du];exact a2.nd)⟩
   · rw[du]at this b2
     omega
   · rw[vD ql]at hne ⊢
     by_cases k:q=n
     · subst k
       rw[if_pos rfl]at hne ⊢
       have h1:nth G2 q≠[]:=fun e=>hne (by rw[e];rfl)
       have:=a2.cap q (by rw[List.length_set];exact hq) h1
       rw[cZ hq]at this
       rw[List.length_tail]
       have:=List.length_pos_iff.2 h1
       omega
     · rw[if_neg k]at hne ⊢
       have:=a2.cap n (by rw[List.length_set];exact hn) hne
       rw[ed k]at this
       exact this
   · rw[vD ql]at hi
     refine a2.wnt n (by rw[List.length_set];exact hn) i ?_
     by_cases k:q=n
     · subst k;rw[if_pos rfl]at hi;exact List.mem_of_mem_tail hi
     · rw[if_neg k]at hi;exact hi
theorem JH{W:List (List Int)}{S:List Int}(hb:WB W S)(h:cD W S=true){X:List Nat}(nd:X.Nodup)(hX:∀i∈X,i<W.length):vo S (aO W X)≤0:=by
 obtain⟨G,a,b⟩:=(qj hb).1 h
 have:=zU a hb.w nd hX
 omega
theorem Dc{W:List (List Int)}{S:List Int}(hb:WB W S)(h:cD W S=true){X:List Nat}(nd:X.Nodup)(hX:∀i∈X,i<W.length):cD (aO W X) S=true:=by
 have ln:(aO W X).length=X.length:=List.length_map _
 have z:oy (aO W X) S (2 ^ (aO W X).length-1)≤0:=qi (by omega) (fun s=>by
  have:aO (aO W X) (lL (aO W X).length s)=aO W ((lL (aO W X).length s).map fun i=>nth X i):=by
   unfold aO
   rw[List.map_map]
   refine List.map_congr_left fun i hi=>?_
   have il:=kJ hi
   rw[List.length_map]at il
   simp only[Function.comp]
   unfold nth
   rw[aLl,aLn,aLc il,aLl,aLl (l:=X),aLc il]
   simp[aLl]
  rw[this]
  refine JH hb h ?_ fun i hi=>?_
  · have mn:=vv (aO W X).length s
    rw[List.Nodup,List.pairwise_map]
    refine mn.imp_of_mem fun{a b} ha hb hne e=>hne ?_
    have al:=kJ ha
    have bl:=kJ hb
    rw[ln]at al bl
    have e1:nth X a=X[a]:=iL (aLc al)
    have e2:nth X b=X[b]:=iL (aLc bl)
    rw[e1,e2]at e
    rcases Nat.lt_trichotomy a b with q | q | q
    · exact absurd e (List.pairwise_iff_getElem.1 nd a b al bl q)
    · exact q
    · exact absurd e.symm (List.pairwise_iff_getElem.1 nd b a bl al q)
  · obtain⟨j,hj,rfl⟩:=List.mem_map.1 hi
    have jl:=kJ hj
    rw[ln]at jl
    exact hX _ (dE jl)) _
 have nn:=qh (aO W X) S (2 ^ (aO W X).length-1)
 unfold cD cQ
 rw[decide_eq_true_iff];omega
theorem w4(W:List (List Int)):aO W (List.range W.length)=W:=by
 apply List.ext_getElem?
 intro i
 by_cases c:i<W.length
 · rw[aLn,aLp c,aLw]
   unfold nth
   rw[aLl,aLc c];rfl
 · rw[aLm (by rw[List.length_map,List.length_range];omega),aLm (by omega)]
theorem mZ(S:List Int):cD [] S=true:=by
 unfold cD cQ
 simp[oy]
theorem w5{W:List (List Int)}{S:List Int}(hb:WB W S):(cI W S=none↔cD W S=true):=by
 constructor
 · intro h
   by_cases e:W=[]
   · subst e;exact mZ S
   · have:=tM h (X:=List.range W.length) (by simpa using e) ⟨List.pairwise_lt_range,fun x hx=>aLu.1 hx⟩ (by simp)
     unfold tK at this
     rw[w4,Bool.not_eq_false']at this
     exact this
 · intro h
   cases hs:cI W S with
   | none=>rfl
   | some l=>
     obtain⟨-,u, -,b, -⟩:=dG hs
     have:=Dc hb h (u.up.imp fun{a b} k=>by omega) u.lt
     unfold tK at b
     rw[this]at b
     exact absurd b (by simp)
theorem pd{W:List (List Int)}{S:List Int}{l:List Nat}(h:cI W S=some l){k:Nat}(hk:k<l.length):cD (aO W (l.eraseIdx k)) S=true:=by
 obtain⟨-,u, -, -,s, -⟩:=dG h
 by_cases e:l.eraseIdx k=[]
 · rw[e];exact mZ S
 · have sub:=List.eraseIdx_sublist l k
   have:=s (l.eraseIdx k) e ⟨u.up.sublist sub,fun x hx=>u.lt x (sub.subset hx)⟩ (by rw[List.length_eraseIdx,if_pos hk];omega)
   unfold tK at this
   rwa [Bool.not_eq_false']at this
end Go.Ev
namespace Go.Ev
open Go
variable [Lib] [aL] [aN] [bF] [bJ]
section
variable (x : wA) (s : PB) (k : Keys) (b : Bel) (hx : x.area.length ≤ 1000000) (hk : k.roads.length ≤ 1000000) (hk2 : k.keys.length ≤ 1000000) (hb : b.sz)
include hx hk hk2 hb
end
end Go.Ev
namespace Go.Ev
open Go
variable [Lib] [aL] [aN] [bF] [bJ]
section
variable (d d1 d2 d3 d4 d5 : ay) (p a3 : Bool) (st fi se ti now ar ag f1 f2 a1 a2 a4 : Int) (n : Nat) (b : Int) (h0 : 0 ≤ now) (h1 : now ≤ b) (hb : b ≤ 100000) (e5 : d5.fj) (l2 : 0 ≤ a2) (m1 : 0 ≤ a1 ∧ a1 ≤ 301) (l4 : 0 ≤ a4) (h4 : a4 < 3) (hn : n ≤ 30)
 (o1:bV 0 N.br [.bp 0 0,.t (.sl [.int .i64 0,.int .i64 10,.int .i64 200,.int .i64 301])] [d.obj]=some (I a1,[d1.obj])) (o2:bV 0 N.av [.bp 0 0,I 6] [d1.obj]=some (I a2,[d2.obj]))
 (o3:bV 0 N.pU [.bp 0 0,I 6] [d2.obj]=some (B a3,[d3.obj])) (o4:bV 0 N.av [.bp 0 0,I 3] [d3.obj]=some (I a4,[d4.obj]))
include h0 h1 hb e5 l2 m1 l4 h4 hn o1 o2 o3 o4
end
end Go.Ev
namespace Go.Ev
open Go
variable [Lib] [aL] [aN] [bF]
end Go.Ev
namespace Go.Ev
open Go
variable [Lib] [aL] [aN] [bF] [bJ]
def ay.fX(d:ay):Nat→List Int×ay
 | 0=>([],d)
 | j+1=>((d.fX j).1++[((d.fX j).2.next 9).1-1],((d.fX j).2.next 9).2)
theorem ay.kO(d:ay):∀j,(d.fX j).1.length=j
 | 0=>rfl
 | j+1=>by simp only[ay.fX,aLv,List.length_singleton,ay.kO d j]
theorem ay.jS{d:ay}(h:d.fj):∀j,(d.fX j).2.fj
 | 0=>h
 | j+1=>ay.eZ (ay.jS h j) 9
def ay.oz(d:ay):List Int×ay:=(d.next 5).2.fX (d.next 5).1.toNat
theorem ay.tO{d:ay}(h:d.fj):d.oz.2.fj:=ay.jS (ay.eZ h 5) _
theorem ay.rH(d:ay):d.oz.1.length≤4:=by
 have:=d.gN (n:=5) (by omega)
 unfold ay.oz
 rw[ay.kO];omega
theorem JI(d:ay)(hd:d.fj):bV 0 N.ba [.bp 0 0] [d.obj]=some (.t (tL d.oz.1),[d.oz.2.obj]):=by
 refine bS K.eJ rfl ?_
 have o1:=lE d 5 (by omega) hd
 have l1:=d.iM 5
 have h1:=d.gN (n:=5) (by omega)
 have e1:=d.eZ hd 5
 unfold ay.oz
 generalize d.next 5=r at*
 obtain⟨a,d1⟩:=r
 simp only at o1 l1 h1 e1 ⊢
 obtain⟨n,rfl⟩:=Int.eq_ofNat_of_zero_le l1
 simp only[Int.toNat_natCast]
 have loop:∀z:D,exS bV K.gp ⟨[.bp 0 0,z,.ref 1 0 0,I n],[d1.obj,.arr 1 false 0 []]⟩=some (.exit 0,⟨[.bp 0 0,.und,.ref 1 0 (d1.fX n).1.length,I 0],[(d1.fX n).2.obj,.arr 1 false 0 (ints (d1.fX n).1)]⟩):=by
  intro z
  refine ec (fun j=>⟨[.bp 0 0,.und,.ref 1 0 (d1.fX j).1.length,I ((n-j:Nat):Int)],[(d1.fX j).2.obj,.arr 1 false 0 (ints (d1.fX j).1)]⟩) n rfl ?_ ?_ (by simp)
  · intro j hj
    have il:=d1.kO j
    have lt:=ay.jS e1 j
    simp only[ay.fX]
    generalize d1.fX j=s at*
    obtain⟨out,dj⟩:=s
    simp only at il lt ⊢
    have o2:=lE dj 9 (by omega) lt
    have l2:=dj.iM 9
    have h2:=dj.gN (n:=9) (by omega)
    generalize dj.next 9=s at*
    obtain⟨x,dk⟩:=s
    obtain⟨k,hk⟩:∃k,n-j=k+1:=⟨n-j-1,by omega⟩
    have hk2:n-(j+1)=k:=by omega
    have wk:IntKind.i64.wrap (k:Int)=k:=c9 (by omega) (by omega)
    simp only[ints,hk,hk2]at*
    simp(disch:=omega)only[go_sem,K.dR,↓reduceIte,o2,wk,reduceAdd,reduceSub]
  · simp only[Nat.sub_self]
    simp(disch:=omega)only[go_sem,K.dR,↓reduceIte,ints,reduceAdd,reduceSub]
 have il:=d1.kO n
 generalize d1.fX n=s at*
 obtain⟨out,dj⟩:=s
 simp only[ints]at*
 simp(disch:=omega)only[go_sem,K.ba,↓reduceIte,o1,loop,reduceAdd,reduceSub]
structure Scn(x:wA)(k:Keys)(c:Bel)(d:ay):Prop where
 hx:x.area.length≤64
 h1:0≤x.hold
 h2:x.hold≤1000
 m1:0≤x.mis
 m2:x.mis≤10000
 hk:k.roads.length≤64
 hk2:k.keys.length≤64
 hc:c.sz
 fj:d.fj
end Go.Ev
namespace Go.Ev
open Go
variable [Lib] [aL] [aN] [bF] [bJ] [cT] [bL] [bM] [cC] [cA] [aZ] [a7] [bX] [bY] [eK] [dy]
def ay.rX(d:ay):Nat→List (List Int)×ay
 | 0=>([],d)
 | j+1=>((d.rX j).1++[(d.rX j).2.oz.1],(d.rX j).2.oz.2)
def ay.rI(d:ay):Nat→List Int×ay
 | 0=>([],d)
 | j+1=>((d.rI j).1++[((d.rI j).2.of [1,0,2, -1,100]).1],((d.rI j).2.of [1,0,2, -1,100]).2)
theorem ay.qk(d:ay):∀j,(d.rX j).1.length=j
 | 0=>rfl
 | j+1=>by simp only[ay.rX,aLv,List.length_singleton,ay.qk d j]
theorem ay.qm(d:ay):∀j,(d.rI j).1.length=j
 | 0=>rfl
 | j+1=>by simp only[ay.rI,aLv,List.length_singleton,ay.qm d j]
theorem ay.lP{d:ay}(h:d.fj):∀j,(d.rX j).2.fj
 | 0=>h
 | j+1=>ay.tO (ay.lP h j)
theorem ay.lQ{d:ay}(h:d.fj):∀j,(d.rI j).2.fj
 | 0=>h
 | j+1=>ay.Cf (ay.lQ h j) _
theorem ay.rJ(d:ay):∀j,∀x∈(d.fX j).1, -1≤x∧x≤7
 | 0,x,h=>by simp[ay.fX]at h
 | j+1,x,h=>by
   rw[ay.fX,List.mem_append]at h
   rcases h with h | h
   · exact ay.rJ d j x h
   · rw[List.mem_singleton.1 h]
     have:=(d.fX j).2.iM 9
     have:=(d.fX j).2.gN (n:=9) (by omega)
     omega
theorem ay.vE(d:ay):∀j,∀l∈(d.rX j).1,l.length≤4∧∀x∈l, -1≤x∧x≤7
 | 0,x,h=>by simp[ay.rX]at h
 | j+1,x,h=>by
   rw[ay.rX,List.mem_append]at h
   rcases h with h | h
   · exact ay.vE d j x h
   · rw[List.mem_singleton.1 h]
     exact⟨ay.rH _,by unfold ay.oz;exact ay.rJ _ _⟩
theorem ay.vF(d:ay):∀j,∀x∈(d.rI j).1, -1≤x∧x≤100
 | 0,x,h=>by simp[ay.rI]at h
 | j+1,x,h=>by
   rw[ay.rI,List.mem_append]at h
   rcases h with h | h
   · exact ay.vF d j x h
   · rw[List.mem_singleton.1 h]
     have:=(d.rI j).2.Pj (l:=[1,0,2, -1,100]) (by simp)
     simp only[List.mem_cons,List.not_mem_nil,or_false]at this
     omega
structure WS(W:List (List Int))(S:List Int):Prop where
 wl:W.length≤6
 sl:S.length≤5
 wb:∀l∈W,l.length≤4∧∀x∈l, -1≤x∧x≤7
 sb:∀x∈S, -1≤x∧x≤100
theorem As(d:ay)(hd:d.fj):∃(W:List (List Int)) (S:List Int) (d':ay),bV 0 N.bO [.bp 0 0] [d.obj]=some (.tup [.t (.sl (W.map tL)),.t (tL S)],[d'.obj])∧WS W S∧d'.fj:=by
 have o1:=lE d 7 (by omega) hd
 have l1:=d.iM 7
 have h1:=d.gN (n:=7) (by omega)
 have e1:=d.eZ hd 7
 generalize d.next 7=r at*
 obtain⟨a,d1⟩:=r
 simp only at o1 l1 h1 e1 ⊢
 obtain⟨n,rfl⟩:=Int.eq_ofNat_of_zero_le l1
 have wl:=d1.qk n
 have wb:=d1.vE n
 have lt:=ay.lP e1 n
 have loop1:∀z1 z2 z5 z6:D,exS bV K.iQ ⟨[.bp 0 0,z1,z2,.ref 1 0 0,I n,z5,z6],[d1.obj,.arr 1 false 0 []]⟩=some (.exit 0,⟨[.bp 0 0,.und,.und,.ref 1 0 n,I 0,.und,.und],[(d1.rX n).2.obj,.arr 1 false 0 (((d1.rX n).1.map tL).map .t)]⟩):=by
  intro z1 z2 z5 z6
  refine ec (fun j=>⟨[.bp 0 0,.und,.und,.ref 1 0 j,I ((n-j:Nat):Int),.und,.und],[(d1.rX j).2.obj,.arr 1 false 0 (((d1.rX j).1.map tL).map .t)]⟩) n rfl ?_ ?_ (by simp)
  · intro j hj
    have il:=d1.qk j
    have lt:=ay.lP e1 j
    simp only[ay.rX]
    generalize d1.rX j=s at*
    obtain⟨out,dj⟩:=s
    simp only at il lt ⊢
    subst il
    have o2:=JI dj lt
    have l2:=dj.rH
    generalize dj.oz=s at*
    obtain⟨x,dk⟩:=s
    obtain⟨k,hk⟩:∃k,n-out.length=k+1:=⟨n-out.length-1,by omega⟩
    have hk2:n-(out.length+1)=k:=by omega
    have wk:IntKind.i64.wrap (k:Int)=k:=c9 (by omega) (by omega)
    simp only[hk,hk2]at*
    simp(disch:=omega)only[go_sem,K.eL,↓reduceIte,o2,wk,reduceAdd,reduceSub]
  · simp only[Nat.sub_self]
    simp(disch:=omega)only[go_sem,K.eL,↓reduceIte,reduceAdd,reduceSub]
 generalize d1.rX n=s at*
 obtain⟨W,d2⟩:=s
 simp only at wl wb lt loop1
 have o3:=lE d2 6 (by omega) lt
 have l3:=d2.iM 6
 have h3:=d2.gN (n:=6) (by omega)
 have e3:=d2.eZ lt 6
 generalize d2.next 6=r at*
 obtain⟨a,d3⟩:=r
 simp only at o3 l3 h3 e3
 obtain⟨m,rfl⟩:=Int.eq_ofNat_of_zero_le l3
 have sl:=d3.qm m
 have sb:=d3.vF m
 have lt4:=ay.lQ e3 m
 have loop2:∀z1 z2 z4:D,exS bV K.iR ⟨[.bp 0 0,z1,z2,.ref 1 0 n,z4,.ref 2 0 0,I m],[d3.obj,.arr 1 false 0 ((W.map tL).map .t),.arr 1 false 0 []]⟩=some (.exit 2,⟨[.bp 0 0,.und,.und,.ref 1 0 n,.und,.ref 2 0 m,I 0],[(d3.rI m).2.obj,.arr 1 false 0 ((W.map tL).map .t),.arr 1 false 0 (ints (d3.rI m).1)]⟩):=by
  intro z1 z2 z4
  clear loop1
  generalize (W.map tL)=A at*
  refine ec (fun j=>⟨[.bp 0 0,.und,.und,.ref 1 0 n,.und,.ref 2 0 j,I ((m-j:Nat):Int)],[(d3.rI j).2.obj,.arr 1 false 0 (A.map .t),.arr 1 false 0 (ints (d3.rI j).1)]⟩) m rfl ?_ ?_ (by simp)
  · intro j hj
    have il:=d3.qm j
    have lt:=ay.lQ e3 j
    simp only[ay.rI]
    generalize d3.rI j=s at*
    obtain⟨out,dj⟩:=s
    simp only at il lt ⊢
    subst il
    have o2:bV 0 N.br [.bp 0 0,.t (.sl [tI 1,tI 0,tI 2,tI (-1),tI 100])] [dj.obj]=some (I (dj.of [1,0,2, -1,100]).1,[(dj.of [1,0,2, -1,100]).2.obj]):=VU dj [1,0,2, -1,100] (by simp) (by simp) lt
    generalize dj.of [1,0,2, -1,100]=s at*
    obtain⟨x,dk⟩:=s
    obtain⟨k,hk⟩:∃k,m-out.length=k+1:=⟨m-out.length-1,by omega⟩
    have hk2:m-(out.length+1)=k:=by omega
    have wk:IntKind.i64.wrap (k:Int)=k:=c9 (by omega) (by omega)
    simp only[hk,hk2,ints]at*
    simp(disch:=omega)only[go_sem,K.eM,↓reduceIte,o2,wk,reduceAdd,reduceSub]
  · simp only[Nat.sub_self]
    simp(disch:=omega)only[go_sem,K.eM,↓reduceIte,reduceAdd,reduceSub]
 generalize d3.rI m=s at*
 obtain⟨S,d4⟩:=s
 simp only at sl sb lt4 loop2
 refine⟨W,S,d4,bS K.fS rfl ?_,⟨by omega,by omega,wb,sb⟩,lt4⟩
 subst sl
 subst wl
 simp only[ints]at loop2
 simp(disch:=omega)only[go_sem,K.bO,↓reduceIte,o1,loop1,o3,loop2,reduceAdd,reduceSub]
end Go.Ev
namespace Go.Ev
open Go
variable [Lib] [aL] [aN] [bF] [bJ] [cT] [bL] [bM] [cC] [cA] [aZ] [a7] [bX] [bY] [gr] [gu] [iq] [gR] [ir] [eK] [dy] [jR]
def bG(l:List Nat)(k:Nat)(i:Nat):List Nat:=match k with
 | 0=>l.take i
 | k+1=>(l.take i).eraseIdx k
theorem pe(l:List Nat)(k:Nat){i:Nat}(h:i<l.length):bG l k (i+1)=bG l k i++(if k=i+1 then []else [nth l i]):=by
 have tl:(l.take i).length=i:=by rw[List.length_take];omega
 cases k with
 | zero=>simp only[bG];rw[pX h];simp
 | succ k=>
   simp only[bG]
   rw[pX h]
   rcases Nat.lt_trichotomy k i with q | q | q
   · rw[List.eraseIdx_append_of_lt_length (by omega),if_neg (by omega)]
   · subst q
     rw[List.eraseIdx_append_of_length_le (by omega),if_pos rfl,tl,Nat.sub_self,List.eraseIdx_of_length_le (l:=l.take k) (by omega)]
     rfl
   · rw[List.eraseIdx_of_length_le (by rw[aLv,tl,List.length_singleton];omega),List.eraseIdx_of_length_le (by omega),if_neg (by omega)]
theorem kP(l:List Nat)(k i:Nat):(bG l k i).length≤l.length:=by
 have tl:(l.take i).length≤l.length:=by rw[List.length_take];omega
 cases k with
 | zero=>exact tl
 | succ k=>exact Nat.le_trans (List.eraseIdx_sublist _ _).length_le tl
theorem pg(l:List Nat)(k:Nat):bG l k 0=[]:=by cases k<;>simp[bG]
theorem w6{W:List (List Int)}{S:List Int}(hW:W.length≤12)(l:List Nat)(hl:l.length≤12)(hm:∀x∈l,x<W.length)(k:Nat)(hk:k≤l.length)(d:ay)(us:List Int):
 ∀z0 z1 z2 z5 z6 z7 z8 z9 z10 z11 z16:D,exS bV K.dg ⟨[z0,z1,z2,.t (.sl (W.map tL)),.t (tL S),z5,z6,z7,z8,z9,z10,z11,.t (tL (cN l)),I ((k:Int)-1),.ref 2 0 0,I 0,z16],[d.obj,cK us]++[.arr 1 false 0 []]⟩=
  some (.exit 4,⟨[.und,.und,.und,.t (.sl (W.map tL)),.t (tL S),.und,.und,.und,.und,.und,.und,.und,.t (tL (cN l)),I ((k:Int)-1),.ref 2 0 (bG l k l.length).length,I l.length,.und],[d.obj,cK us]++[.arr 1 false 0 (((aO W (bG l k l.length)).map tL).map .t)]⟩):=by
 intro z0 z1 z2 z5 z6 z7 z8 z9 z10 z11 z16
 have lc:(cN l).length=l.length:=List.length_map _
 refine ec (fun i=>⟨[.und,.und,.und,.t (.sl (W.map tL)),.t (tL S),.und,.und,.und,.und,.und,.und,.und,.t (tL (cN l)),I ((k:Int)-1),.ref 2 0 (bG l k i).length,I i,.und],[d.obj,cK us]++[.arr 1 false 0 (((aO W (bG l k i)).map tL).map .t)]⟩) l.length (by rw[pg];rfl) ?_ ?_ (by simp)
 · intro i hi
   have ig:=cO (l:=cN l) (Ev.T.int .i64) (j:=i) (by omega)
   rw[E5 l i hi]at ig
   have xl:=hm _ (dE hi)
   have wg:=cO (l:=W) tL xl
   have pl:(aO W (bG l k i)).length=(bG l k i).length:=List.length_map _
   have dl:=kP l k i
   have dl2:(bG l k i).length≤12:=by omega
   have i12:i<12:=by omega
   have c1:¬((nth l i:Nat):Int)<0:=by omega
   have c2:¬((nth l i:Nat):Int)≥(W.length:Int):=by omega
   have ic:i<(cN l).length:=by omega
   rw[pe l k hi]
   by_cases c:k=i+1
   · rw[if_pos c,List.append_nil]
     have e:(k:Int)-1=(i:Int):=by omega
     rw[e]
     clear lc hm dl hi
     generalize aO W (bG l k i)=R at*
     generalize (bG l k i).length=rl at*
     generalize nth l i=x at*
     generalize cN l=cl at*
     subst pl
     simp only[tL,List.cons_append,List.nil_append,cK]at*
     simp(disch:=omega)only[go_sem,K.aU,↓reduceIte,ig,c1,c2,decide_true,decide_false,Bool.not_true,reduceAdd,reduceSub]
   · rw[if_neg c]
     have e:¬(i:Int)=(k:Int)-1:=by omega
     simp only[aO,List.map_append,List.map_cons,List.map_nil,aLv,List.length_singleton]at pl ⊢
     clear lc hm dl hi
     generalize (bG l k i).map (fun i=>nth W i)=R at*
     generalize (bG l k i).length=rl at*
     generalize nth l i=x at*
     generalize nth W x=w at*
     generalize cN l=cl at*
     subst pl
     simp only[tL,List.cons_append,List.nil_append,cK]at*
     simp(disch:=omega)only[go_sem,K.aU,↓reduceIte,ig,wg,c1,c2,e,decide_true,decide_false,Bool.not_false,reduceAdd,reduceSub]
 · rw[← lc]
   generalize aO W (bG l k (cN l).length)=R
   generalize (bG l k (cN l).length).length=rl
   clear hm lc
   generalize cN l=cl at*
   simp only[tL,List.cons_append,List.nil_append,cK]at*
   simp(disch:=omega)only[go_sem,K.aU,↓reduceIte,reduceAdd,reduceSub]
theorem w7{W:List (List Int)}{S:List Int}(hb:WB W S)(sk:fW S S.length)(d:ay)(us:List Int):
 ∀z0 z1 z2 z5 z6 z7 z8 z9 z10 z11 z14 z15 z16:D,exS bV K.dh ⟨[z0,z1,z2,.t (.sl (W.map tL)),.t (tL S),z5,z6,z7,z8,z9,z10,z11,.t (tL (cN ((cI W S).getD []))),I (-1),z14,z15,z16],[d.obj,cK us]⟩=
  some (.exit 2,⟨[.und,.und,.und,.t (.sl (W.map tL)),.t (tL S),.und,.und,.und,.und,.und,.und,.und,.t (tL (cN ((cI W S).getD []))),I ((cI W S).getD []).length,.und,.und,.und],[d.obj,cK us]⟩):=by
 intro z0 z1 z2 z5 z6 z7 z8 z9 z10 z11 z14 z15 z16
 have hW:=hb.w
 obtain⟨l,hl⟩:∃l,(cI W S).getD []=l:=⟨_,rfl⟩
 have lm:l.length≤12∧∀x∈l,x<W.length:=by
  cases hs:cI W S with
  | none=>rw[hs]at hl;subst hl;exact⟨by simp,by simp⟩
  | some x=>
    rw[hs,Option.getD_some]at hl
    subst hl
    obtain⟨-,u,ln, -⟩:=dG hs
    exact⟨by omega,u.lt⟩
 have ft:∀k,k≤l.length→cD (aO W (bG l k l.length)) S=(decide (0<k)||decide (l.length=0)):=fun k hk=>by
  cases hs:cI W S with
  | none=>
    rw[hs]at hl;subst hl
    have:k=0:=by simpa using hk
    subst this
    exact mZ S
  | some x=>
    rw[hs,Option.getD_some]at hl
    subst hl
    obtain⟨ne, -, -,b, -⟩:=dG hs
    have:=List.length_pos_iff.2 ne
    rw[decide_eq_false (by omega:¬x.length=0),Bool.or_false]
    cases k with
    | zero=>
      simp only[bG,List.take_length]
      unfold tK at b
      simpa using b
    | succ k=>
      simp only[bG,List.take_length]
      rw[pd hs (by omega),decide_eq_true (by omega)]
 rw[hl]
 have lc:(cN l).length=l.length:=List.length_map _
 refine ec (fun k=>⟨[.und,.und,.und,.t (.sl (W.map tL)),.t (tL S),.und,.und,.und,.und,.und,.und,.und,.t (tL (cN l)),I ((k:Int)-1),.und,.und,.und],[d.obj,cK us]⟩) (l.length+1) (by rfl) ?_ ?_ (by simp)
 · intro k hk
   have l3:=w6 hW l lm.1 lm.2 (S:=S) k (by omega) d us
   have dl:=kP l k l.length
   have as:=lO (W:=aO W (bG l k l.length)) (S:=S) (by rw[List.length_map];omega) hb.s (mW hb.l _) sk
   rw[ft k (by omega)]at as
   have lt:(k:Int)-1<(l.length:Int):=by omega
   have e1:((k+1:Nat):Int)-1=(k:Int):=by omega
   have wk:IntKind.i64.wrap ((k:Int)-1+1)=(k:Int):=by rw[show(k:Int)-1+1=(k:Int)by omega];exact c9 (by omega) (by omega)
   have pl:(aO W (bG l k l.length)).length=(bG l k l.length).length:=List.length_map _
   rw[e1]
   rw[← lc]at lt l3
   have l12:=lm.1
   clear ft hb sk lm hl
   generalize vB (aO W (bG l k l.length)) S=A at*
   rw[lc]at l3
   generalize aO W (bG l k l.length)=R at*
   generalize (bG l k l.length).length=rl at*
   subst pl
   by_cases c0:l.length=0
   · have g:¬((cN l).length:Int)>0:=by omega
     have g2:l.length=(cN l).length:=by omega
     rw[g2]at l3 as
     rw[decide_eq_true (by omega:(cN l).length=0),Bool.or_true]at as
     clear lc c0 g2
     generalize cN l=cl at*
     simp only[tL,List.cons_append,List.nil_append,cK]at*
     simp(disch:=omega)only[go_sem,K.aG,↓reduceIte,lt,l3,as,g,wk,decide_false,reduceAdd,reduceSub]
   · have g:((cN l).length:Int)>0:=by omega
     have g2:l.length=(cN l).length:=by omega
     rw[decide_eq_false (by omega:¬l.length=0),Bool.or_false]at as
     rw[g2]at l3
     clear lc g2
     by_cases ck:0<k
     · have g3:(k:Int)-1≥0:=by omega
       rw[decide_eq_true ck]at as
       clear c0
       generalize cN l=cl at*
       simp only[tL,List.cons_append,List.nil_append,cK]at*
       simp(disch:=omega)only[go_sem,K.aG,↓reduceIte,lt,l3,as,g,g3,wk,decide_true,beq_self_eq_true,Bool.not_true,reduceAdd,reduceSub]
     · have g3:¬(k:Int)-1≥0:=by omega
       rw[decide_eq_false ck]at as
       clear c0
       generalize cN l=cl at*
       simp only[tL,List.cons_append,List.nil_append,cK]at*
       simp(disch:=omega)only[go_sem,K.aG,↓reduceIte,lt,l3,as,g,g3,wk,decide_true,decide_false,beq_self_eq_true,Bool.not_true,reduceAdd,reduceSub]
 · have e1:((l.length+1:Nat):Int)-1=(l.length:Int):=by omega
   rw[e1,←lc]
   clear ft lm hl lc
   generalize cN l=cl at*
   simp only[tL,cK]at*
   simp(disch:=omega)only[go_sem,K.aG,↓reduceIte,reduceAdd,reduceSub]
theorem w8{W:List (List Int)}{S:List Int}(hW:W.length≤12)(l:List Nat)(hl:l.length≤12)(hm:∀x∈l,x<W.length)(k:Nat)(hk:k≤l.length)(d:ay)(us mr:List Int):
 ∀z0 z1 z2 z5 z6 z7 z8 z9 z10 z11 z16:D,exS bV K.dg ⟨[z0,z1,z2,.t (.sl (W.map tL)),.t (tL S),z5,z6,z7,z8,z9,z10,z11,.t (tL (cN l)),I ((k:Int)-1),.ref 3 0 0,I 0,z16],[d.obj,cK us,cK mr]++[.arr 1 false 0 []]⟩=
  some (.exit 4,⟨[.und,.und,.und,.t (.sl (W.map tL)),.t (tL S),.und,.und,.und,.und,.und,.und,.und,.t (tL (cN l)),I ((k:Int)-1),.ref 3 0 (bG l k l.length).length,I l.length,.und],[d.obj,cK us,cK mr]++[.arr 1 false 0 (((aO W (bG l k l.length)).map tL).map .t)]⟩):=by
 intro z0 z1 z2 z5 z6 z7 z8 z9 z10 z11 z16
 have lc:(cN l).length=l.length:=List.length_map _
 refine ec (fun i=>⟨[.und,.und,.und,.t (.sl (W.map tL)),.t (tL S),.und,.und,.und,.und,.und,.und,.und,.t (tL (cN l)),I ((k:Int)-1),.ref 3 0 (bG l k i).length,I i,.und],[d.obj,cK us,cK mr]++[.arr 1 false 0 (((aO W (bG l k i)).map tL).map .t)]⟩) l.length (by rw[pg];rfl) ?_ ?_ (by simp)
 · intro i hi
   have ig:=cO (l:=cN l) (Ev.T.int .i64) (j:=i) (by omega)
   rw[E5 l i hi]at ig
   have xl:=hm _ (dE hi)
   have wg:=cO (l:=W) tL xl
   have pl:(aO W (bG l k i)).length=(bG l k i).length:=List.length_map _
   have dl:=kP l k i
   have dl2:(bG l k i).length≤12:=by omega
   have i12:i<12:=by omega
   have c1:¬((nth l i:Nat):Int)<0:=by omega
   have c2:¬((nth l i:Nat):Int)≥(W.length:Int):=by omega
   have ic:i<(cN l).length:=by omega
   rw[pe l k hi]
   by_cases c:k=i+1
   · rw[if_pos c,List.append_nil]
     have e:(k:Int)-1=(i:Int):=by omega
     rw[e]
     clear lc hm dl hi
     generalize aO W (bG l k i)=R at*
     generalize (bG l k i).length=rl at*
     generalize nth l i=x at*
     generalize cN l=cl at*
     subst pl
     simp only[tL,List.cons_append,List.nil_append,cK]at*
     simp(disch:=omega)only[go_sem,K.aU,↓reduceIte,ig,c1,c2,decide_true,decide_false,Bool.not_true,reduceAdd,reduceSub]
   · rw[if_neg c]
     have e:¬(i:Int)=(k:Int)-1:=by omega
     simp only[aO,List.map_append,List.map_cons,List.map_nil,aLv,List.length_singleton]at pl ⊢
     clear lc hm dl hi
     generalize (bG l k i).map (fun i=>nth W i)=R at*
     generalize (bG l k i).length=rl at*
     generalize nth l i=x at*
     generalize nth W x=w at*
     generalize cN l=cl at*
     subst pl
     simp only[tL,List.cons_append,List.nil_append,cK]at*
     simp(disch:=omega)only[go_sem,K.aU,↓reduceIte,ig,wg,c1,c2,e,decide_true,decide_false,Bool.not_false,reduceAdd,reduceSub]
 · rw[← lc]
   generalize aO W (bG l k (cN l).length)=R
   generalize (bG l k (cN l).length).length=rl
   clear hm lc
   generalize cN l=cl at*
   simp only[tL,List.cons_append,List.nil_append,cK]at*
   simp(disch:=omega)only[go_sem,K.aU,↓reduceIte,reduceAdd,reduceSub]
theorem w9{W:List (List Int)}{S:List Int}(hb:WB W S)(sk:fW S S.length)(d:ay)(us mr:List Int):
 ∀z0 z1 z2 z5 z6 z7 z8 z9 z10 z11 z14 z15 z16:D,exS bV K.dh ⟨[z0,z1,z2,.t (.sl (W.map tL)),.t (tL S),z5,z6,z7,z8,z9,z10,z11,.t (tL (cN ((cI W S).getD []))),I (-1),z14,z15,z16],[d.obj,cK us,cK mr]⟩=
  some (.exit 2,⟨[.und,.und,.und,.t (.sl (W.map tL)),.t (tL S),.und,.und,.und,.und,.und,.und,.und,.t (tL (cN ((cI W S).getD []))),I ((cI W S).getD []).length,.und,.und,.und],[d.obj,cK us,cK mr]⟩):=by
 intro z0 z1 z2 z5 z6 z7 z8 z9 z10 z11 z14 z15 z16
 have hW:=hb.w
 obtain⟨l,hl⟩:∃l,(cI W S).getD []=l:=⟨_,rfl⟩
 have lm:l.length≤12∧∀x∈l,x<W.length:=by
  cases hs:cI W S with
  | none=>rw[hs]at hl;subst hl;exact⟨by simp,by simp⟩
  | some x=>
    rw[hs,Option.getD_some]at hl
    subst hl
    obtain⟨-,u,ln, -⟩:=dG hs
    exact⟨by omega,u.lt⟩
 have ft:∀k,k≤l.length→cD (aO W (bG l k l.length)) S=(decide (0<k)||decide (l.length=0)):=fun k hk=>by
  cases hs:cI W S with
  | none=>
    rw[hs]at hl;subst hl
    have:k=0:=by simpa using hk
    subst this
    exact mZ S
  | some x=>
    rw[hs,Option.getD_some]at hl
    subst hl
    obtain⟨ne, -, -,b, -⟩:=dG hs
    have:=List.length_pos_iff.2 ne
    rw[decide_eq_false (by omega:¬x.length=0),Bool.or_false]
    cases k with
    | zero=>
      simp only[bG,List.take_length]
      unfold tK at b
      simpa using b
    | succ k=>
      simp only[bG,List.take_length]
      rw[pd hs (by omega),decide_eq_true (by omega)]
 rw[hl]
 have lc:(cN l).length=l.length:=List.length_map _
 refine ec (fun k=>⟨[.und,.und,.und,.t (.sl (W.map tL)),.t (tL S),.und,.und,.und,.und,.und,.und,.und,.t (tL (cN l)),I ((k:Int)-1),.und,.und,.und],[d.obj,cK us,cK mr]⟩) (l.length+1) (by rfl) ?_ ?_ (by simp)
 · intro k hk
   have l3:=w8 hW l lm.1 lm.2 (S:=S) k (by omega) d us mr
   have dl:=kP l k l.length
   have as:=lO (W:=aO W (bG l k l.length)) (S:=S) (by rw[List.length_map];omega) hb.s (mW hb.l _) sk
   rw[ft k (by omega)]at as
   have lt:(k:Int)-1<(l.length:Int):=by omega
   have e1:((k+1:Nat):Int)-1=(k:Int):=by omega
   have wk:IntKind.i64.wrap ((k:Int)-1+1)=(k:Int):=by rw[show(k:Int)-1+1=(k:Int)by omega];exact c9 (by omega) (by omega)
   have pl:(aO W (bG l k l.length)).length=(bG l k l.length).length:=List.length_map _
   rw[e1]
   rw[← lc]at lt l3
   have l12:=lm.1
   clear ft hb sk lm hl
   generalize vB (aO W (bG l k l.length)) S=A at*
   rw[lc]at l3
   generalize aO W (bG l k l.length)=R at*
   generalize (bG l k l.length).length=rl at*
   subst pl
   by_cases c0:l.length=0
   · have g:¬((cN l).length:Int)>0:=by omega
     have g2:l.length=(cN l).length:=by omega
     rw[g2]at l3 as
     rw[decide_eq_true (by omega:(cN l).length=0),Bool.or_true]at as
     clear lc c0 g2
     generalize cN l=cl at*
     simp only[tL,List.cons_append,List.nil_append,cK]at*
     simp(disch:=omega)only[go_sem,K.aG,↓reduceIte,lt,l3,as,g,wk,decide_false,reduceAdd,reduceSub]
   · have g:((cN l).length:Int)>0:=by omega
     have g2:l.length=(cN l).length:=by omega
     rw[decide_eq_false (by omega:¬l.length=0),Bool.or_false]at as
     rw[g2]at l3
     clear lc g2
     by_cases ck:0<k
     · have g3:(k:Int)-1≥0:=by omega
       rw[decide_eq_true ck]at as
       clear c0
       generalize cN l=cl at*
       simp only[tL,List.cons_append,List.nil_append,cK]at*
       simp(disch:=omega)only[go_sem,K.aG,↓reduceIte,lt,l3,as,g,g3,wk,decide_true,beq_self_eq_true,Bool.not_true,reduceAdd,reduceSub]
     · have g3:¬(k:Int)-1≥0:=by omega
       rw[decide_eq_false ck]at as
       clear c0
       generalize cN l=cl at*
       simp only[tL,List.cons_append,List.nil_append,cK]at*
       simp(disch:=omega)only[go_sem,K.aG,↓reduceIte,lt,l3,as,g,g3,wk,decide_true,decide_false,beq_self_eq_true,Bool.not_true,reduceAdd,reduceSub]
 · have e1:((l.length+1:Nat):Int)-1=(l.length:Int):=by omega
   rw[e1,←lc]
   clear ft lm hl lc
   generalize cN l=cl at*
   simp only[tL,cK]at*
   simp(disch:=omega)only[go_sem,K.aG,↓reduceIte,reduceAdd,reduceSub]
structure QG(W:List (List Int))(S A:List Int):Prop where
 ln:A.length≤W.length
 at_:∀i,i<A.length→∃s:Nat,s<S.length∧nth A i=s∧(s:Int)∈nth W i∧0≤nth (fA S.length A i) s∧nth (fA S.length A i) s≤12∧nth (fA S.length A i) s+1≤nth S s
theorem QH{W:List (List Int)}{S:List Int}(hb:WB W S):QG W S (vB W S)∧(cD W S=true→(vB W S).length=W.length)∧(cD W S=false→vB W S=[]):=by
 unfold vB
 cases hf:cD W S with
 | false=>exact⟨⟨by simp,fun i hi=>by simp at hi⟩,by simp,by simp⟩
 | true=>
   obtain⟨-,b, -,d⟩:=mY hb hf W.length (aLs _)
   rw[if_pos rfl]
   refine⟨⟨by omega,fun i hi=>?_⟩,fun _=>b,by simp⟩
   obtain⟨s,s1,s2,s3,s4, -⟩:=d i (by omega)
   obtain⟨u1,u2,u3⟩:=rF hb hf i (by omega) s s1
   have:=hb.w
   exact⟨s,s1,s2,s3,u2,by omega,by omega⟩
theorem Au{W:List (List Int)}{S A:List Int}(hb:WB W S)(ok:QG W S A)(d:ay)(okb:Bool)(n:Int):
 ∀z0 z1 z10 z11 z12 z13 z14 z15 z16:D,exS bV K.eQ ⟨[z0,z1,.bp 0 0,.t (.sl (W.map tL)),.t (tL S),.t (tL A),B okb,I n,.ref 1 0 S.length,I 0,z10,z11,z12,z13,z14,z15,z16],[d.obj,.arr 1 false 0 (List.replicate S.length (.t (.int .i64 0)))]⟩=
  some (.exit 0,⟨[.und,.und,.bp 0 0,.t (.sl (W.map tL)),.t (tL S),.t (tL A),B okb,I n,.ref 1 0 S.length,I A.length,.und,.und,.und,.und,.und,.und,.und],[d.obj,cK (fA S.length A A.length)]⟩):=by
 intro z0 z1 z10 z11 z12 z13 z14 z15 z16
 refine ec (fun i=>⟨[.und,.und,.bp 0 0,.t (.sl (W.map tL)),.t (tL S),.t (tL A),B okb,I n,.ref 1 0 S.length,I i,.und,.und,.und,.und,.und,.und,.und],[d.obj,cK (fA S.length A i)]⟩) A.length (by
  simp only[fA,cK,List.map_replicate];rfl) ?_ ?_ (by simp)
 · intro i hi
   obtain⟨s,s1,s2,s3,s4,s5,s6⟩:=ok.at_ i hi
   have hw:=hb.w
   have an:=ok.ln
   have ag:=cO (l:=A) (Ev.T.int .i64) hi
   have sg:=cO (l:=S) (Ev.T.int .i64) s1
   have wg:=cO (l:=W) tL (j:=i) (by omega)
   have hh:=Pk (nth W i) s (by have:=hb.l i;omega)
   rw[decide_eq_true s3]at hh
   rw[s2]at ag
   have c1:¬(s:Int)<0:=by omega
   have c2:¬(s:Int)≥(S.length:Int):=by omega
   rw[fA,s2,Int.toNat_natCast]
   have ul:=oh S.length A i
   have wk:IntKind.i64.wrap (nth (fA S.length A i) s+1)=nth (fA S.length A i) s+1:=c9 (by omega) (by omega)
   generalize fA S.length A i=us at*
   have n2:nth (us.set s (nth us s+1)) s=nth us s+1:=cZ (by omega)
   have c3:¬nth us s+1>nth S s:=by omega
   generalize nth W i=w at*
   clear ok hb s3 s2
   simp only[tL,cK]at*
   have ll:(us.set s (nth us s+1)).length=S.length:=by rw[List.length_set,ul]
   simp(disch:=omega)only[go_sem,K.cX,↓reduceIte,ag,wg,hh,c1,c2,wk,n2,c3,ll,decide_false,Bool.not_true,aLt,reduceAdd,reduceSub]
 · simp only[tL,cK]
   simp(disch:=omega)only[go_sem,K.cX,↓reduceIte,reduceAdd,reduceSub]
theorem Av(aw:bV 0 N.b9 [] []=some (B true,[]))(li:List Int):bV 0 N.aB [.t (tL li)] []=some (B true,[]):=by
 refine bS K.dF rfl ?_
 have lo:=Ce li
 by_cases c:li.length≤400
 · simp only[c,decide_true]at lo
   have ro:=PI li
   have d0:(ay.mk li 0).fj:=c
   generalize (ay.mk li 0)=d at*
   obtain⟨W,S,d1,wo,ws,l1⟩:=As d d0
   have wl:=ws.wl
   have sl:=ws.sl
   have hl:∀i,(nth W i).length≤100000:=fun i=>by
    by_cases l:i<W.length
    · have:=(ws.wb _ (dE l)).1;omega
    · rw[kI l];exact Nat.zero_le _
   have hb:WB W S:=⟨by omega,by omega,hl⟩
   have sbd:∀i,nth S i≤100:=fun i=>by
    by_cases l:i<S.length
    · exact(ws.sb _ (dE l)).2
    · unfold nth;rw[aLl,aLm (by omega)];show(0:Int)≤_;omega
   have sk:fW S S.length:=⟨rfl,fun i=>by have:=sbd i;omega⟩
   have as:=lO hb.w hb.s hb.l sk
   obtain⟨mo,cm,me, -,cw⟩:=gQ hb.w hb.s hb.l2
   obtain⟨ao,a1,a2⟩:=QH hb
   have lp1:=Au hb ao d1 (cD W S) (cQ W S)
   have sh:=An hb.w hb.s hb.l2
   have sf:=w5 hb
   have lpA:=w7 hb sk d1 (fA S.length (vB W S) (vB W S).length)
   have c0:(cD W S==decide (cQ W S=(W.length:Int)))=true:=by unfold cD;exact beq_self_eq_true _
   have c0':∀f,(cD W S=f)→decide (cQ W S=(W.length:Int))=f:=fun f h=>by rw[← h];rfl
   have s0:(decide ((cN ((cI W S).getD [])).length=0))=cD W S:=by
    cases hs:cI W S with
    | none=>rw[sf.1 hs];rfl
    | some l=>
      have ne:=(dG hs).1
      have:cD W S=false:=by
       cases h:cD W S with
       | false=>rfl
       | true=>rw[sf.2 h]at hs;simp at hs
      rw[this,Option.getD_some,List.length_map,decide_eq_false]
      have:=List.length_pos_iff.2 ne
      omega
   clear c0
   by_cases z:S.length=0
   · have gz:¬((S.length:Nat):Int)>0:=by omega
     clear ao sf wl ws l1 hb hl sbd sk me
     generalize cN ((cI W S).getD [])=X at*
     generalize hA:vB W S=A at*
     generalize fA S.length A A.length=us at*
     generalize cQ W S=m at*
     cases hf:cD W S with
     | true=>
       have hm:=c0' true hf
       have a1:=a1 hf
       rw[hf]at as lp1 s0
       rw[decide_eq_true_iff]at s0 hm
       clear a2 c0' hf hA
       subst hm
       simp only[tL]at*
       simp(disch:=omega)only[go_sem,K.aB,↓reduceIte,lo,ro,wo,as,mo,lp1,gz,sh,s0,lpA,aw,a1,decide_true,beq_self_eq_true,Bool.not_true,reduceAdd,reduceSub]
     | false=>
       have hm:=c0' false hf
       have a2:=a2 hf
       rw[hf]at as lp1 s0
       rw[decide_eq_false_iff_not]at s0 hm
       clear a1 c0' hf hA
       subst a2
       have s1:¬(X.length:Int)=0:=by omega
       simp only[tL,List.map_nil]at*
       simp(disch:=omega)only[go_sem,K.aB,↓reduceIte,lo,ro,wo,as,mo,lp1,gz,sh,s1,hm,lpA,aw,decide_true,decide_false,beq_self_eq_true,Bool.not_true,reduceAdd,reduceSub]
   · have gz:((S.length:Nat):Int)>0:=by omega
     have no:=lE d1 S.length (by omega) l1
     have q0:=d1.iM S.length
     have q1:=d1.gN (n:=S.length) (by omega)
     generalize d1.next S.length=r at*
     obtain⟨q,d2⟩:=r
     simp only at no q0 q1
     obtain⟨q,rfl⟩:=Int.eq_ofNat_of_zero_le q0
     have lpB:=w9 hb sk d2 (fA S.length (vB W S) (vB W S).length) (S.set q (nth S q+1))
     have mo2:=(gQ (W:=W) (S:=S.set q (nth S q+1)) hb.w (by rw[List.length_set];exact hb.s) hb.l2).1
     obtain⟨m1,m2⟩:=Ar hb (q:=q) (by omega)
     have sg:=cO (l:=S) (Ev.T.int .i64) (j:=q) (by omega)
     have sb:=sbd q
     have slo: -1≤nth S q:=by
      have:=(ws.sb _ (dE (l:=S) (j:=q) (by omega))).1;omega
     have wk:IntKind.i64.wrap (nth S q+1)=nth S q+1:=c9 (by omega) (by omega)
     have mb: -1≤cQ W S∧cQ W S≤12:=by omega
     have wm:IntKind.i64.wrap (cQ W S+1)=cQ W S+1:=c9 (by omega) (by omega)
     have g1:¬cQ W (S.set q (nth S q+1))<cQ W S:=by omega
     have g2:¬cQ W (S.set q (nth S q+1))>cQ W S+1:=by omega
     clear ao sf wl ws l1 hb hl sbd sk me m1 m2 mb lpA
     generalize cN ((cI W S).getD [])=X at*
     generalize hA:vB W S=A at*
     generalize fA S.length A A.length=us at*
     generalize cQ W (S.set q (nth S q+1))=k at*
     generalize cQ W S=m at*
     cases hf:cD W S with
     | true=>
       have hm:=c0' true hf
       have a1:=a1 hf
       rw[hf]at as lp1 s0
       rw[decide_eq_true_iff]at s0 hm
       clear a2 c0' hf hA
       subst hm
       simp only[tL]at*
       simp(disch:=omega)only[go_sem,K.aB,↓reduceIte,lo,ro,wo,as,mo,lp1,gz,no,sg,wk,mo2,wm,g1,g2,sh,s0,lpB,aw,a1,decide_true,decide_false,beq_self_eq_true,Bool.not_true,reduceAdd,reduceSub]
     | false=>
       have hm:=c0' false hf
       have a2:=a2 hf
       rw[hf]at as lp1 s0
       rw[decide_eq_false_iff_not]at s0 hm
       clear a1 c0' hf hA
       subst a2
       have s1:¬(X.length:Int)=0:=by omega
       simp only[tL,List.map_nil]at*
       simp(disch:=omega)only[go_sem,K.aB,↓reduceIte,lo,ro,wo,as,mo,lp1,gz,no,sg,wk,mo2,wm,g1,g2,sh,s1,hm,lpB,aw,decide_true,decide_false,beq_self_eq_true,Bool.not_true,reduceAdd,reduceSub]
 · simp only[c,decide_false]at lo
   simp only[tL]at*
   simp(disch:=omega)only[go_sem,K.aB,↓reduceIte,lo,aw,Bool.not_false,reduceAdd,reduceSub]
end Go.Ev
