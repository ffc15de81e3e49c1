/- Parts of the proof: see the text that holds the theorem. -/
import Derived.Test.YtgedjeljhicagaaGreatZ3
set_option linter.all false
open Nat (reduceAdd reduceSub)
set_option maxRecDepth 100000
namespace Go.Ev
open Go
variable [Lib] [cz] [bZ]
theorem q8:∀ {l l':List Int},l.Nodup→(∀x∈l,x∈l')→l.length≤l'.length
 | [],_,_,_=>by simp
 | a::l,l',hn,hs=>by
   obtain⟨h1,h2⟩:=List.nodup_cons.1 hn
   have ha:a∈l':=hs a List.mem_cons_self
   have:=q8 (l:=l) (l':=l'.erase a) h2 fun x hx=>by
    have hne:x≠a:=fun e=>h1 (e▸hx)
    exact(List.mem_erase_of_ne hne).2 (hs x (List.mem_cons_of_mem _ hx))
   have h3:=List.length_erase_of_mem ha
   have h4:0<l'.length:=List.length_pos_of_mem ha
   simp only[List.length_cons]
   omega
theorem mB{l:List Int}{x:Int}:0≤bz l x↔x∈l:=by
 unfold bz
 cases hf:(List.range l.length).find? (fun j=>decide (nth l j=x))with
 | some j=>
   obtain⟨h1,h2⟩:=xx hf
   have:=af h1
   rw[of_decide_eq_true h2]at this
   simp[this]
 | none=>
   have:=List.find?_eq_none.1 hf
   simp only[Int.reduceNeg]
   constructor
   · intro h;simp at h
   · intro h
     obtain⟨j,hj⟩:=aLf.1 h
     have hl:=(aLe.1 hj).1
     have:=this j (aLu.2 hl)
     rw[bP hj]at this
     simp at this
theorem jU{l:List Int}(h:fN l=true):l.Nodup:=by
 simp only[fN,aLx,aLu,ox,decide_eq_true_eq]at h
 refine List.pairwise_iff_getElem.2 fun i j hi hj hij e=>?_
 obtain⟨-, -,h3⟩:=h j hj
 have h4:¬nth l j∈l.take j:=fun hm=>by have:=mB.2 hm;omega
 apply h4
 apply aLf.2
 refine⟨i,?_⟩
 rw[List.getElem?_take_of_lt hij,aLc hi,e,←aLc hj,ff hj]
theorem ft{m:aP}{b:Bel}(h:oX m b=true):1≤b.aq.length∧b.aq.length≤24∧1≤(nth b.aq 0).tags.length∧(nth b.aq 0).tags.length≤12∧
 ∀i,i<b.aq.length→qe m b.aq (nth b.aq 0).tags i=true:=by
 simp only[oX,aLr,decide_eq_true_eq,aLx,aLu]at h
 exact⟨h.1.1.1,h.1.1.2,h.1.2.1,h.1.2.2,h.2⟩
theorem ik{m:aP}{ws:List World}{first:List Int}{i:Nat}(h:qe m ws first i=true):(nth ws i).tags.length=first.length∧(nth ws i).whr.length=first.length∧fN (nth ws i).tags=true∧
 ∀k,k<(nth ws i).tags.length→nth (nth ws i).tags k∈first∧dy m (nth (nth ws i).whr k)=true:=by
 simp only[qe,aLr,decide_eq_true_eq,aLx,aLu,KT]at h
 exact⟨h.1.1.1.1,h.1.1.1.2,h.1.1.2,fun k hk=>⟨mB.1 (h.2 k hk).1,(h.2 k hk).2⟩⟩
theorem Am{m:aP}{b:Bel}(h:oX m b=true){tag:Int}(ht:0≤bz (nth b.aq 0).tags tag){i:Nat}(hi:i<b.aq.length):
 0≤bz (nth b.aq i).tags tag:=by
 obtain⟨h1,h2,h3,h4,h5⟩:=ft h
 obtain⟨w1,w2,w3,w4⟩:=ik (h5 i hi)
 apply mB.2
 apply Classical.byContradiction
 intro hn
 have:=q8 (l:=tag::(nth b.aq i).tags) (l':=(nth b.aq 0).tags) (List.nodup_cons.2 ⟨hn,jU w3⟩) (by
  intro x hx
  rcases List.mem_cons.1 hx with e | hx
  · rw[e];exact mB.1 ht
  · obtain⟨j,hj⟩:=aLf.1 hx
    have:=(w4 j (aLe.1 hj).1).1
    rwa [bP hj]at this)
 simp only[List.length_cons]at this
 omega
def gl(m:aP)(b:Bel)(tag:Int):Int:=if oX m b=false then 6 else if bz (nth b.aq 0).tags tag<0 then 41 else 0
theorem IF{m:aP}(h:m.ok)(b:Bel)(hs:b.sz)(tag:Int):aH 0 N.eL [.t m.e,.t b.e,I tag] []=some (I (gl m b tag),[]):=by
 refine av K.qO rfl ?_
 have v:=GZ h b hs
 unfold gl
 cases hv:oX m b with
 | false=>
   rw[hv]at v
   obtain⟨ws⟩:=b
   simp(disch:=omega)only[go_sem,K.eL,↓reduceIte,v]
 | true=>
   rw[hv]at v
   obtain⟨h1,h2,h3,h4,h5⟩:=ft hv
   have br:=ow (nth b.aq 0).tags tag (by omega)
   obtain⟨ws⟩:=b
   simp only at h1 br ⊢
   by_cases c:bz (nth ws 0).tags tag<0
   · simp(disch:=omega)only[go_sem,K.eL,↓reduceIte,v,br,c,Bool.true_eq_false]
   · simp(disch:=omega)only[go_sem,K.eL,↓reduceIte,v,br,c,Bool.true_eq_false]
def EL(a b:Wh)(t:Int):Bool:=(List.range (min a.frm.length b.frm.length)).any fun p=>decide (nth a.frm p≤t∧nth b.frm p≤t)
theorem Uf(a b:Wh)(t:Int)(ha:a.frm.length≤1000000):aH 0 N.i5 [.t a.e,.t b.e,I t] []=some (B (EL a b t),[]):=by
 refine av K.sC rfl ?_
 obtain⟨t1,l1⟩:=a
 obtain⟨t2,l2⟩:=b
 unfold EL
 simp only at ha ⊢
 have loop:∀x y z:D,exS aH K.vX ⟨[x,y,I t,.bp 0 0,.bp 1 0,z,I 0],[.box [I t1,.t (tL l1)],.box [I t2,.t (tL l2)]]⟩=
  some (match (List.range (min l1.length l2.length)).find? (fun p=>decide (nth l1 p≤t∧nth l2 p≤t))with
   | some j=>(.ret,⟨[.und,.und,I t,.bp 0 0,.bp 1 0,B true,I j],[.box [I t1,.t (tL l1)],.box [I t2,.t (tL l2)]]⟩)
   | none=>(.exit 0,⟨[.und,.und,I t,.bp 0 0,.bp 1 0,.und,I (min l1.length l2.length:Nat)],[.box [I t1,.t (tL l1)],.box [I t2,.t (tL l2)]]⟩)):=by
  intro x y z
  refine cP (fun j=>⟨[.und,.und,I t,.bp 0 0,.bp 1 0,.und,I j],[.box [I t1,.t (tL l1)],.box [I t2,.t (tL l2)]]⟩) (min l1.length l2.length) (fun p=>decide (nth l1 p≤t∧nth l2 p≤t)) _ _ rfl ?_ ?_ ?_ (by simp)
  · intro j hj hp
    have hp:¬(nth l1 j≤t∧nth l2 j≤t):=of_decide_eq_false hp
    by_cases c:nth l1 j≤t
    · simp(disch:=omega)only[go_sem,K.i9,↓reduceIte,c]
    · simp(disch:=omega)only[go_sem,K.i9,↓reduceIte,c]
  · intro j hj hp
    have hp:nth l1 j≤t∧nth l2 j≤t:=of_decide_eq_true hp
    refine⟨?_,by simp⟩
    simp(disch:=omega)only[go_sem,K.i9,↓reduceIte]
  · by_cases h1:l1.length≤l2.length
    · have e:min l1.length l2.length=l1.length:=by omega
      rw[e]
      simp(disch:=omega)only[go_sem,K.i9,↓reduceIte]
    · have e:min l1.length l2.length=l2.length:=by omega
      rw[e]
      simp(disch:=omega)only[go_sem,K.i9,↓reduceIte]
 rw[← CR]
 simp(disch:=omega)only[go_sem,K.i5,↓reduceIte,loop]
 cases hf:(List.range (min l1.length l2.length)).find? (fun p=>decide (nth l1 p≤t∧nth l2 p≤t))with
 | some j=>simp(disch:=omega)only[go_sem,↓reduceIte,Option.isSome]
 | none=>simp(disch:=omega)only[go_sem,↓reduceIte,Option.isSome]
def Ba(b:Bel)(aR t:Int)(p:Nat):Bool:=(List.range b.aq.length).any fun i=>decide (0≤aR∧aR<(nth b.aq i).whr.length)&&decide ((p:Int)∈mV (nth (nth b.aq i).whr aR.toNat) t)
def CW(b:Bel)(aR t:Int):List Int:=eW 64 (Ba b aR t)
theorem CY(b:Bel)(hs:b.sz)(aR t:Int):aH 0 N.dW [.t b.e,I aR,I t] []=some (.t (tL (CW b aR t)),[]):=by
 refine av K.ng rfl ?_
 obtain⟨h1,h2⟩:=hs
 obtain⟨ws⟩:=b
 simp only at h1 h2
 have hlen:=fun k=>mz k (Ba ⟨ws⟩ aR t)
 have inner:∀(j:Nat),j<64→∀a c:D,exS aH K.p4 ⟨[a,I aR,I t,.bp 0 0,c,.ref 1 0 (eW j (Ba ⟨ws⟩ aR t)).length,I j,I 0],[.box [.t (.sl (ws.map World.e))],.arr 1 false 0 (((eW j (Ba ⟨ws⟩ aR t)).map (T.int .i64)).map .t)]⟩=
  some (match (List.range ws.length).find? (fun i=>decide (0≤aR∧aR<(nth ws i).whr.length)&&decide ((j:Int)∈mV (nth (nth ws i).whr aR.toNat) t))with
   | some i=>(.exit 2,⟨[.und,I aR,I t,.bp 0 0,.und,.ref 1 0 ((eW j (Ba ⟨ws⟩ aR t)).length+1),I j,I i],[.box [.t (.sl (ws.map World.e))],.arr 1 false 0 (((eW j (Ba ⟨ws⟩ aR t)++[(j:Int)]).map (T.int .i64)).map .t)]⟩)
   | none=>(.exit 2,⟨[.und,I aR,I t,.bp 0 0,.und,.ref 1 0 (eW j (Ba ⟨ws⟩ aR t)).length,I j,I ws.length],[.box [.t (.sl (ws.map World.e))],.arr 1 false 0 (((eW j (Ba ⟨ws⟩ aR t)).map (T.int .i64)).map .t)]⟩)):=by
  intro j hj a c
  have hlen:=hlen j
  refine cP (fun i=>⟨[.und,I aR,I t,.bp 0 0,.und,.ref 1 0 (eW j (Ba ⟨ws⟩ aR t)).length,I j,I i],[.box [.t (.sl (ws.map World.e))],.arr 1 false 0 (((eW j (Ba ⟨ws⟩ aR t)).map (T.int .i64)).map .t)]⟩) ws.length _ _ _ rfl ?_ ?_ ?_ (by simp)
  · intro i hi hp
    have sz:=h2 _ (af hi)
    generalize hx:nth ws i=x at*
    obtain⟨tags,whr⟩:=x
    obtain⟨s1,s2,s3⟩:=sz
    simp only at s1 s2 s3 hp
    generalize eW j (Ba ⟨ws⟩ aR t)=L at*
    by_cases c1:0≤aR
    · by_cases c2:aR<whr.length
      · have ps:=wy (nth whr aR.toNat) t (s3 _ (af (by omega)))
        have hs:=IA (mV (nth whr aR.toNat) t) j (by
         have:=mz (nth whr aR.toNat).frm.length (fun j=>decide (nth (nth whr aR.toNat).frm j≤t))
         have:=s3 _ (af (l:=whr) (j:=aR.toNat) (by omega))
         unfold mV;omega)
        simp only[c1,c2,and_self,decide_true,Bool.true_and,decide_eq_false_iff_not]at hp
        simp only[hp,decide_false]at hs
        generalize hy:nth whr aR.toNat=y at*
        obtain⟨time,frm⟩:=y
        simp(disch:=omega)only[go_sem,K.fF,↓reduceIte,hx,hy,ps,hs]
      · simp(disch:=omega)only[go_sem,K.fF,↓reduceIte,hx]
    · simp(disch:=omega)only[go_sem,K.fF,↓reduceIte,hx]
  · intro i hi hp
    have sz:=h2 _ (af hi)
    generalize hx:nth ws i=x at*
    obtain⟨tags,whr⟩:=x
    obtain⟨s1,s2,s3⟩:=sz
    simp only[aLr,decide_eq_true_eq]at s1 s2 s3 hp
    obtain⟨⟨c1,c2⟩,c3⟩:=hp
    generalize eW j (Ba ⟨ws⟩ aR t)=L at*
    have ps:=wy (nth whr aR.toNat) t (s3 _ (af (by omega)))
    have hs:=IA (mV (nth whr aR.toNat) t) j (by
     have:=mz (nth whr aR.toNat).frm.length (fun j=>decide (nth (nth whr aR.toNat).frm j≤t))
     have:=s3 _ (af (l:=whr) (j:=aR.toNat) (by omega))
     unfold mV;omega)
    simp only[c3,decide_true]at hs
    generalize hy:nth whr aR.toNat=y at*
    obtain⟨time,frm⟩:=y
    refine⟨?_,by simp⟩
    simp(disch:=omega)only[go_sem,K.fF,↓reduceIte,hx,hy,ps,hs]
  · generalize eW j (Ba ⟨ws⟩ aR t)=L at*
    simp(disch:=omega)only[go_sem,K.fF,↓reduceIte]
 have loop:∀a b c:D,exS aH K.p5 ⟨[a,I aR,I t,.bp 0 0,b,.ref 1 0 0,I 0,c],[.box [.t (.sl (ws.map World.e))],.arr 1 false 0 []]⟩=
  some (.exit 0,⟨[.und,I aR,I t,.bp 0 0,.und,.ref 1 0 (eW 64 (Ba ⟨ws⟩ aR t)).length,I 64,.und],[.box [.t (.sl (ws.map World.e))],.arr 1 false 0 (((eW 64 (Ba ⟨ws⟩ aR t)).map (T.int .i64)).map .t)]⟩):=by
  intro a b c
  refine dw (fun j=>⟨[.und,I aR,I t,.bp 0 0,.und,.ref 1 0 (eW j (Ba ⟨ws⟩ aR t)).length,I j,.und],[.box [.t (.sl (ws.map World.e))],.arr 1 false 0 (((eW j (Ba ⟨ws⟩ aR t)).map (T.int .i64)).map .t)]⟩) 64 rfl ?_ ?_ (by simp)
  · intro j hj
    have inner:=inner j hj
    have hlen:=hlen j
    rw[ou]
    have e:Ba ⟨ws⟩ aR t j=((List.range ws.length).find? (fun i=>decide (0≤aR∧aR<(nth ws i).whr.length)&&decide ((j:Int)∈mV (nth (nth ws i).whr aR.toNat) t))).isSome:=by rw[CR];rfl
    cases hf:(List.range ws.length).find? (fun i=>decide (0≤aR∧aR<(nth ws i).whr.length)&&decide ((j:Int)∈mV (nth (nth ws i).whr aR.toNat) t))with
    | some i=>
      rw[hf]at e inner
      simp only[Option.isSome]at e
      simp(disch:=omega)only[go_sem,K.ju,↓reduceIte,inner,e]
    | none=>
      rw[hf]at e inner
      simp only[Option.isSome]at e
      simp(disch:=omega)only[go_sem,K.ju,↓reduceIte,inner,e,aLt]
  · simp(disch:=omega)only[go_sem,K.ju,↓reduceIte]
    rfl
 have:=hlen 64
 simp(disch:=omega)only[go_sem,K.dW,↓reduceIte,loop,CW]
def iG(m:aP)(bU:List Int)(t:Int)(j:Nat):List Wh:=(List.range j).map fun i=>(gT m (nth bU i) t).1
theorem EM(m:aP)(bU:List Int)(t:Int)(j:Nat):iG m bU t (j+1)=iG m bU t j++[(gT m (nth bU j) t).1]:=by
 unfold iG;rw[List.range_succ,List.map_append];rfl
@[simp] theorem q9 (m : aP) (bU : List Int) (t : Int) (j : Nat) : (iG m bU t j).length = j := by simp [iG]
def tK(m:aP)(tags bU:List Int)(t:Int):Bel×Int:=
 if tags.length=bU.length∧1≤tags.length∧tags.length≤12 then
  if fN tags=true then match (List.range tags.length).find? (fun i=> !decide ((gT m (nth bU i) t).2=0))with
   | some i=>(⟨[]⟩,(gT m (nth bU i) t).2)
   | none=>(⟨[⟨tags,iG m bU t tags.length⟩]⟩,0)
  else(⟨[]⟩,41)
 else(⟨[]⟩,6)
abbrev stH(m:aP)(tags:List Int)(r:D)(ws:List Wh):ah:=[.box (ae m),.box [r],.arr 1 false 0 ((tags.map (T.int .i64)).map .t),.box [.ref 2 0 tags.length,.ref 5 0 ws.length],.arr 2 false 0 [],.arr 2 false 0 ((ws.map Wh.e).map .t)]
theorem G0{m:aP}(h:m.ok)(tags bU:List Int)(hl:tags.length≤1000000)(t:Int):
 aH 0 N.dZ [.t m.e,.t (tL tags),.t (tL bU),I t] []=some (.tup [.t (tK m tags bU t).1.e,I (tK m tags bU t).2],[]):=by
 refine av K.qI rfl ?_
 have ck:=qY h
 have pr:=EJ tags hl
 unfold tK
 by_cases c1:tags.length=bU.length
 · by_cases c2:tags.length<1
   · simp(disch:=omega)only[go_sem,K.dZ,↓reduceIte,ck,show ¬(tags.length=bU.length∧1≤tags.length∧tags.length≤12)by omega]
     rfl
   · by_cases c3:12<tags.length
     · simp(disch:=omega)only[go_sem,K.dZ,↓reduceIte,ck,show ¬(tags.length=bU.length∧1≤tags.length∧tags.length≤12)by omega]
       rfl
     · have c:tags.length=bU.length∧1≤tags.length∧tags.length≤12:=by omega
       rw[if_pos c]
       clear c
       cases hp:fN tags with
       | false=>
         rw[hp]at pr
         simp(disch:=omega)only[go_sem,K.dZ,↓reduceIte,ck,pr,aLt]
         rfl
       | true=>
         rw[hp]at pr
         have loop:∀a b c d:D,exS aH K.uj ⟨[a,.t (tL tags),.t (tL bU),I t,.bp 0 0,.bp 1 0,b,.bp 3 0,I 0,c,d],stH m tags .nil []⟩=
          some (match (List.range tags.length).find? (fun i=> !decide ((gT m (nth bU i) t).2=0))with
           | some i=>(.ret,⟨[.und,.t (tL tags),.t (tL bU),I t,.bp 0 0,.bp 1 0,I (gT m (nth bU i) t).2,.bp 3 0,I i,.bp 6 0,I (gT m (nth bU i) t).2],stH m tags .nil (iG m bU t i)++[.box [I (gT m (nth bU i) t).1.time,.t (tL (gT m (nth bU i) t).1.frm)]]⟩)
           | none=>(.exit 0,⟨[.und,.t (tL tags),.t (tL bU),I t,.bp 0 0,.bp 1 0,.und,.bp 3 0,I tags.length,.und,.und],stH m tags .nil (iG m bU t tags.length)⟩)):=by
          intro a b c d
          refine cP (fun j=>⟨[.und,.t (tL tags),.t (tL bU),I t,.bp 0 0,.bp 1 0,.und,.bp 3 0,I j,.und,.und],stH m tags .nil (iG m bU t j)⟩) tags.length _ _ _ rfl ?_ ?_ ?_ (by simp)
          · intro j hj hp
            have st:=IC h (nth bU j) t
            have ln:=q9 m bU t j
            have hp:(gT m (nth bU j) t).2=0:=by simpa using hp
            rw[EM]
            generalize iG m bU t j=L at*
            generalize gT m (nth bU j) t=r at*
            obtain⟨⟨time,frm⟩,e⟩:=r
            simp only at st hp ⊢
            subst hp
            simp(disch:=omega)only[go_sem,K.lE,↓reduceIte,stH,st,reduceAdd,reduceSub]
            done
          · intro j hj hp
            have st:=IC h (nth bU j) t
            have ln:=q9 m bU t j
            have hp:(gT m (nth bU j) t).2≠0:=by simpa using hp
            generalize iG m bU t j=L at*
            generalize gT m (nth bU j) t=r at*
            obtain⟨⟨time,frm⟩,e⟩:=r
            simp only at st hp ⊢
            refine⟨?_,by simp⟩
            simp(disch:=omega)only[go_sem,K.lE,↓reduceIte,stH,st,reduceAdd,reduceSub]
            done
          · have ln:=q9 m bU t tags.length
            generalize iG m bU t tags.length=L at*
            simp(disch:=omega)only[go_sem,K.lE,↓reduceIte]
         simp only[stH,List.map_nil,List.length_nil]at loop
         simp(disch:=omega)only[go_sem,K.dZ,↓reduceIte,ck,pr,loop]
         cases hf:(List.range tags.length).find? (fun i=> !decide ((gT m (nth bU i) t).2=0))with
         | some i=>
           simp(disch:=omega)only[go_sem,↓reduceIte]
           rfl
         | none=>
           have ln:=q9 m bU t tags.length
           generalize iG m bU t tags.length=L at*
           simp(disch:=omega)only[go_sem,↓reduceIte]
           rfl
 · simp(disch:=omega)only[go_sem,K.dZ,↓reduceIte,ck,show ¬(tags.length=bU.length∧1≤tags.length∧tags.length≤12)by omega]
   rfl
@[go_sem] theorem adn : ([] : List D).all mh = true := (rfl)
@[go_sem] theorem aap (d : D) (r : List D) : (d :: r).all mh = (mh d && r.all mh) := (rfl)
@[go_sem] theorem Ug (cs : List T) : mh (.t (.agg cs)) = false := (rfl)
@[go_sem] theorem Xn (cs : List T) : mh (.t (.sl cs)) = false := (rfl)
@[go_sem] theorem Uh (k : IntKind) (n : Int) : mh (.t (.int k n)) = true := (rfl)
@[go_sem] theorem Rr (b : Bool) : mh (.t (.bool b)) = true := (rfl)
@[go_sem] theorem ahl (l : List Wh) (k : Nat) (a : Int) (b : List Int) : (List.map D.t (List.map Wh.e l)).set k (D.t (T.agg [tI a, tL b])) = List.map D.t (List.map Wh.e (l.set k ⟨a, b⟩)) := by
 rw[List.map_set,List.map_set]
def ux(m:aP)(tag:Int)(l:List Int)(a b:Int)(x:World):Wh×Int:=w8 m (nth x.whr (bz x.tags tag).toNat) l a b
def EN(tag:Int)(x:World)(w:Wh):World:=⟨x.tags,x.whr.set (bz x.tags tag).toNat w⟩
def wA(tag:Int)(r:Wh×Int)(x:World)(out:List World):List World:=
 if r.2=43 then out else out++[if r.2=0 then EN tag x r.1 else x]
def lq(m:aP)(tag:Int)(l:List Int)(a b:Int)(ws:List World):Nat→List World
 | 0=>[]
 | j+1=>wA tag (ux m tag l a b (nth ws j)) (nth ws j) (lq m tag l a b ws j)
theorem Mj(tag:Int)(r:Wh×Int)(x:World)(out:List World):(wA tag r x out).length≤out.length+1:=by
 unfold wA;split<;>simp
theorem sM(m:aP)(tag:Int)(l:List Int)(a b:Int)(ws:List World):∀j,(lq m tag l a b ws j).length≤j
 | 0=>by simp[lq]
 | j+1=>by
   have:=sM m tag l a b ws j
   have:=Mj tag (ux m tag l a b (nth ws j)) (nth ws j) (lq m tag l a b ws j)
   simp only[lq];omega
abbrev xF(m:aP)(ws out:List World):ah:=[.box (ae m),.box [.t (.sl (ws.map World.e))],.box [.nil],.box [.ref 4 0 out.length],.arr 2 false 0 ((out.map World.e).map .t)]
theorem EO{m:aP}(h:m.ok)(ws:List World)(hw:ws.length≤1000000)(tag:Int)(l:List Int)(hp:l.length≤1000000)(a b:Int)(i:Nat)(hi:i<ws.length)(hs:(nth ws i).sz)
 (hb:0≤bz (nth ws i).tags tag) (hb2:bz (nth ws i).tags tag<(nth ws i).whr.length) (out:List World) (ho:out.length≤1000000):
 ((ux m tag l a b (nth ws i)).2≠6∧(ux m tag l a b (nth ws i)).2≠8→dV true [0,1,9,10,13,14,15,16,17,18] 5 (exS aH K.eZ ⟨[.und,.und,I tag,.t (tL l),I a,I b,.bp 0 0,.bp 1 0,.bp 2 0,.und,.und,.bp 3 0,I i,.und,.und,.und,.und,.und,.und],xF m ws out⟩)=
   some ⟨[.und,.und,I tag,.t (tL l),I a,I b,.bp 0 0,.bp 1 0,.bp 2 0,.und,.und,.bp 3 0,I (i+1),.und,.und,.und,.und,.und,.und],xF m ws (wA tag (ux m tag l a b (nth ws i)) (nth ws i) out)⟩)∧
 ((ux m tag l a b (nth ws i)).2=6∨(ux m tag l a b (nth ws i)).2=8→∃vs H,exS aH K.eZ ⟨[.und,.und,I tag,.t (tL l),I a,I b,.bp 0 0,.bp 1 0,.bp 2 0,.und,.und,.bp 3 0,I i,.und,.und,.und,.und,.und,.und],xF m ws out⟩=
   some (.ret,⟨vs,H⟩)∧vs[8]?=some (.bp 2 0)∧vs[9]?=some (I (ux m tag l a b (nth ws i)).2)∧H[2]?=some (.box [.t (.sl (ws.map World.e))])):=by
 unfold ux wA EN
 have c1:=lL (nth ws i) hs
 have br:=ow (nth ws i).tags tag (by have:=hs.1;omega)
 have s3:=hs.2.2 _ (af (l:=(nth ws i).whr) (j:=(bz (nth ws i).tags tag).toNat) (by omega))
 have se:=aai h (nth (nth ws i).whr (bz (nth ws i).tags tag).toNat) s3 l hp a b
 generalize hx:nth ws i=x at*
 obtain⟨tags,whr⟩:=x
 simp only at c1 br s3 se hb hb2 ⊢
 generalize bz tags tag=k at*
 generalize hy:nth whr k.toNat=y at*
 generalize w8 m y l a b=r at*
 obtain⟨⟨time,frm⟩,e⟩:=r
 obtain⟨t0,f0⟩:=y
 obtain⟨s1,s2, -⟩:=hs
 simp only at s1 s2 s3 se ⊢
 constructor
 · rintro ⟨n6,n8⟩
   by_cases e43:e=43
   · subst e43
     simp(disch:=omega)only[go_sem,K.eZ,↓reduceIte,xF,hx,hy,c1,br,se,reduceAdd,reduceSub]
   · by_cases e0:e=0
     · subst e0
       simp(disch:=omega)only[go_sem,K.eZ,↓reduceIte,xF,hx,hy,c1,br,se,reduceAdd,reduceSub]
     · simp(disch:=omega)only[go_sem,K.eZ,↓reduceIte,xF,hx,hy,c1,br,se,reduceAdd,reduceSub]
 · rintro (h68 | h68)<;>subst h68
   · simp(disch:=omega)only[go_sem,K.eZ,↓reduceIte,xF,hx,hy,c1,br,se,reduceAdd,reduceSub]
     exact⟨_,_,rfl,rfl,rfl,rfl⟩
   · simp(disch:=omega)only[go_sem,K.eZ,↓reduceIte,xF,hx,hy,c1,br,se,reduceAdd,reduceSub]
     exact⟨_,_,rfl,rfl,rfl,rfl⟩
def yx(m:aP)(tag:Int)(l:List Int)(a b:Int)(ws:List World)(j:Nat):Bool:=decide ((ux m tag l a b (nth ws j)).2=6∨(ux m tag l a b (nth ws j)).2=8)
def kh(m:aP)(b:Bel)(tag:Int)(l:List Int)(a c:Int):Bel×Int:=
 if gl m b tag≠0 then(b,gl m b tag)else match (List.range b.aq.length).find? (yx m tag l a c b.aq)with
  | some i=>(b,(ux m tag l a c (nth b.aq i)).2)
  | none=>if(lq m tag l a c b.aq b.aq.length).length=0 then(b,43)else(⟨lq m tag l a c b.aq b.aq.length⟩,0)
theorem EP{m:aP}(h:m.ok)(b:Bel)(hs:b.sz)(tag:Int)(l:List Int)(hp:l.length≤1000000)(a c:Int):
 aH 0 N.gQ [.t m.e,.t b.e,I tag,.t (tL l),I a,I c] []=some (.tup [.t (kh m b tag l a c).1.e,I (kh m b tag l a c).2],[]):=by
 refine av K.uU rfl ?_
 have cb:=tJ b hs
 have bo:=IF h b hs tag
 unfold kh
 by_cases e0:gl m b tag=0
 · have hb:oX m b=true:=by
    unfold gl at e0
    by_cases hb:oX m b=true
    · exact hb
    · rw[if_pos (by simpa using hb)]at e0;omega
   have ht:0≤bz (nth b.aq 0).tags tag:=by
    unfold gl at e0
    rw[if_neg (by simp[hb])]at e0
    by_cases ht:bz (nth b.aq 0).tags tag<0
    · rw[if_pos ht]at e0;omega
    · omega
   have bb:∀i,i<b.aq.length→0≤bz (nth b.aq i).tags tag∧bz (nth b.aq i).tags tag<(nth b.aq i).whr.length:=fun i hi=>by
    obtain⟨-, -, -, -,h5⟩:=ft hb
    obtain⟨w1,w2, -⟩:=ik (h5 i hi)
    have b1:=Am hb ht (i:=i) hi
    have b2:=(xE b1).1
    exact⟨b1,by omega⟩
   rw[e0]at bo
   obtain⟨ws⟩:=b
   obtain⟨s1,s2⟩:=hs
   simp only at s1 s2 bb cb bo ⊢
   have ln:=sM m tag l a c ws
   have loop:=fun x y z u v w p q r=>kg (gc:=true) (dead:=[0,1,9,10,13,14,15,16,17,18]) (c:=K.eZ)
    (vs:=[x,y,I tag,.t (tL l),I a,I c,.bp 0 0,.bp 1 0,.bp 2 0,z,u,.bp 3 0,I 0,v,w,p,q,r,.und]) (H:=xF m ws [])
    (fun j=>⟨[.und,.und,I tag,.t (tL l),I a,I c,.bp 0 0,.bp 1 0,.bp 2 0,.und,.und,.bp 3 0,I j,.und,.und,.und,.und,.und,.und],xF m ws (lq m tag l a c ws j)⟩) ws.length (yx m tag l a c ws)
    (fun j q=>q.1= .ret∧q.2.vs[8]?=some (.bp 2 0)∧q.2.vs[9]?=some (I (ux m tag l a c (nth ws j)).2)∧q.2.H[2]?=some (.box [.t (.sl (ws.map World.e))]))
    (.exit 0,⟨[.und,.und,I tag,.t (tL l),I a,I c,.bp 0 0,.bp 1 0,.bp 2 0,.und,.und,.bp 3 0,I ws.length,.und,.und,.und,.und,.und,.und],xF m ws (lq m tag l a c ws ws.length)⟩) rfl
    (fun j hj hq=>by
     have:=ln j
     have hq:¬((ux m tag l a c (nth ws j)).2=6∨(ux m tag l a c (nth ws j)).2=8):=by simpa [yx]using hq
     obtain⟨b1,b2⟩:=bb j hj
     exact(EO h ws s1 tag l hp a c j hj (s2 _ (af hj)) b1 b2 (lq m tag l a c ws j) (by omega)).1 (by omega))
    (fun j hj hq=>by
     have:=ln j
     have hq:(ux m tag l a c (nth ws j)).2=6∨(ux m tag l a c (nth ws j)).2=8:=by simpa [yx]using hq
     obtain⟨b1,b2⟩:=bb j hj
     obtain⟨vs,H,q1,q2⟩:=(EO h ws s1 tag l hp a c j hj (s2 _ (af hj)) b1 b2 (lq m tag l a c ws j) (by omega)).2 hq
     exact⟨_,q1,by simp,rfl,q2⟩)
    (by
     have:=ln ws.length
     generalize lq m tag l a c ws ws.length=L at*
     simp(disch:=omega)only[go_sem,K.eZ,↓reduceIte,xF,reduceAdd,reduceSub]) (by simp)
   have loop':∀x y z u v w p q r,_∨_:=loop
   clear loop
   rcases loop' (.t m.e) (.t (Bel.e ⟨ws⟩)) (I 0) (I 0) .und .und .und .und .und with⟨e1,e2⟩ | ⟨j,⟨x,vs,H⟩,e1,e2,e3,e4,e5,e6⟩
   · have e2:exS aH K.sq _=_:=e2
     simp only[xF,List.map_nil,List.length_nil]at e2
     have:=ln ws.length
     rw[e1]
     generalize lq m tag l a c ws ws.length=L at*
     by_cases L0:L.length=0
     · simp(disch:=omega)only[go_sem,K.gQ,↓reduceIte,cb,bo,e2,L0,reduceAdd,reduceSub,ne_eq,not_true_eq_false]
     · simp(disch:=omega)only[go_sem,K.gQ,↓reduceIte,cb,bo,e2,L0,reduceAdd,reduceSub,ne_eq,not_true_eq_false]
   · have e2:exS aH K.sq _=_:=e2
     simp only[xF,List.map_nil,List.length_nil]at e2
     rw[e1]
     simp only at e3 e4 e5 e6
     subst e3
     simp(disch:=omega)only[go_sem,K.gQ,↓reduceIte,cb,bo,e2,reduceAdd,reduceSub,ne_eq,not_true_eq_false,e4,e5,e6,List.take_zero]
 · obtain⟨ws⟩:=b
   simp(disch:=omega)only[go_sem,K.gQ,↓reduceIte,cb,bo,e0,ne_eq,not_false_eq_true]
def tM(m:aP)(tag:Int)(l:List Int)(a b bl:Int)(x:World):Wh×Int:=w9 m (nth x.whr (bz x.tags tag).toNat) l a b bl
def CZ(tag:Int)(r:Wh×Int)(x:World)(out:List World):List World:=out++[if r.2=0 then EN tag x r.1 else x]
def mW(m:aP)(tag:Int)(l:List Int)(a b bl:Int)(ws:List World):Nat→List World
 | 0=>[]
 | j+1=>CZ tag (tM m tag l a b bl (nth ws j)) (nth ws j) (mW m tag l a b bl ws j)
theorem sN(m:aP)(tag:Int)(l:List Int)(a b bl:Int)(ws:List World):∀j,(mW m tag l a b bl ws j).length=j
 | 0=>rfl
 | j+1=>by
   simp only[mW,CZ,aLv,sN m tag l a b bl ws j,List.length_singleton]
theorem ER{m:aP}(h:m.ok)(ws:List World)(hw:ws.length≤1000000)(tag:Int)(l:List Int)(hp:l.length≤1000000)(a b bl:Int)(i:Nat)(hi:i<ws.length)(hs:(nth ws i).sz)
 (hb:0≤bz (nth ws i).tags tag) (hb2:bz (nth ws i).tags tag<(nth ws i).whr.length) (out:List World) (ho:out.length≤1000000):
 ((tM m tag l a b bl (nth ws i)).2≠6∧(tM m tag l a b bl (nth ws i)).2≠8→dV true [0,1,10,11,14,15,16,17] 5 (exS aH K.dD ⟨[.und,.und,I tag,.t (tL l),I a,I b,I bl,.bp 0 0,.bp 1 0,.bp 2 0,.und,.und,.bp 3 0,I i,.und,.und,.und,.und],xF m ws out⟩)=
   some ⟨[.und,.und,I tag,.t (tL l),I a,I b,I bl,.bp 0 0,.bp 1 0,.bp 2 0,.und,.und,.bp 3 0,I (i+1),.und,.und,.und,.und],xF m ws (CZ tag (tM m tag l a b bl (nth ws i)) (nth ws i) out)⟩)∧
 ((tM m tag l a b bl (nth ws i)).2=6∨(tM m tag l a b bl (nth ws i)).2=8→∃vs H,exS aH K.dD ⟨[.und,.und,I tag,.t (tL l),I a,I b,I bl,.bp 0 0,.bp 1 0,.bp 2 0,.und,.und,.bp 3 0,I i,.und,.und,.und,.und],xF m ws out⟩=
   some (.ret,⟨vs,H⟩)∧vs[9]?=some (.bp 2 0)∧vs[10]?=some (I (tM m tag l a b bl (nth ws i)).2)∧H[2]?=some (.box [.t (.sl (ws.map World.e))])):=by
 unfold tM CZ EN
 have c1:=lL (nth ws i) hs
 have br:=ow (nth ws i).tags tag (by have:=hs.1;omega)
 have s3:=hs.2.2 _ (af (l:=(nth ws i).whr) (j:=(bz (nth ws i).tags tag).toNat) (by omega))
 have se:=aaj h (nth (nth ws i).whr (bz (nth ws i).tags tag).toNat) s3 l hp a b bl
 generalize hx:nth ws i=x at*
 obtain⟨tags,whr⟩:=x
 simp only at c1 br s3 se hb hb2 ⊢
 generalize bz tags tag=k at*
 generalize hy:nth whr k.toNat=y at*
 generalize w9 m y l a b bl=r at*
 obtain⟨⟨time,frm⟩,e⟩:=r
 obtain⟨t0,f0⟩:=y
 obtain⟨s1,s2, -⟩:=hs
 simp only at s1 s2 s3 se ⊢
 constructor
 · rintro ⟨n6,n8⟩
   by_cases e0:e=0
   · subst e0
     simp(disch:=omega)only[go_sem,K.dD,↓reduceIte,xF,hx,hy,c1,br,se,reduceAdd,reduceSub]
   · simp(disch:=omega)only[go_sem,K.dD,↓reduceIte,xF,hx,hy,c1,br,se,reduceAdd,reduceSub]
 · rintro (h68 | h68)<;>subst h68
   · simp(disch:=omega)only[go_sem,K.dD,↓reduceIte,xF,hx,hy,c1,br,se,reduceAdd,reduceSub]
     exact⟨_,_,rfl,rfl,rfl,rfl⟩
   · simp(disch:=omega)only[go_sem,K.dD,↓reduceIte,xF,hx,hy,c1,br,se,reduceAdd,reduceSub]
     exact⟨_,_,rfl,rfl,rfl,rfl⟩
def yy(m:aP)(tag:Int)(l:List Int)(a b bl:Int)(ws:List World)(j:Nat):Bool:=decide ((tM m tag l a b bl (nth ws j)).2=6∨(tM m tag l a b bl (nth ws j)).2=8)
def kj(m:aP)(b:Bel)(tag:Int)(l:List Int)(a c bl:Int):Bel×Int:=
 if gl m b tag≠0 then(b,gl m b tag)else match (List.range b.aq.length).find? (yy m tag l a c bl b.aq)with
  | some i=>(b,(tM m tag l a c bl (nth b.aq i)).2)
  | none=>(⟨mW m tag l a c bl b.aq b.aq.length⟩,0)
theorem An{m:aP}{b:Bel}{tag:Int}(e0:gl m b tag=0):oX m b=true∧∀i,i<b.aq.length→0≤bz (nth b.aq i).tags tag∧bz (nth b.aq i).tags tag<(nth b.aq i).whr.length:=by
 have hb:oX m b=true:=by
  unfold gl at e0
  by_cases hb:oX m b=true
  · exact hb
  · rw[if_pos (by simpa using hb)]at e0;omega
 have ht:0≤bz (nth b.aq 0).tags tag:=by
  unfold gl at e0
  rw[if_neg (by simp[hb])]at e0
  by_cases ht:bz (nth b.aq 0).tags tag<0
  · rw[if_pos ht]at e0;omega
  · omega
 refine⟨hb,fun i hi=>?_⟩
 obtain⟨-, -, -, -,h5⟩:=ft hb
 obtain⟨w1,w2, -⟩:=ik (h5 i hi)
 have b1:=Am hb ht (i:=i) hi
 have b2:=(xE b1).1
 exact⟨b1,by omega⟩
theorem ES{m:aP}(h:m.ok)(b:Bel)(hs:b.sz)(tag:Int)(l:List Int)(hp:l.length≤1000000)(a c bl:Int):
 aH 0 N.dM [.t m.e,.t b.e,I tag,.t (tL l),I a,I c,I bl] []=some (.tup [.t (kj m b tag l a c bl).1.e,I (kj m b tag l a c bl).2],[]):=by
 refine av K.pd rfl ?_
 have cb:=tJ b hs
 have bo:=IF h b hs tag
 unfold kj
 by_cases e0:gl m b tag=0
 · obtain⟨hb,bb⟩:=An e0
   rw[e0]at bo
   obtain⟨ws⟩:=b
   obtain⟨s1,s2⟩:=hs
   simp only at s1 s2 bb cb bo ⊢
   have ln:=sN m tag l a c bl ws
   have loop:=fun x y u v w p q r=>kg (gc:=true) (dead:=[0,1,10,11,14,15,16,17]) (c:=K.dD)
    (vs:=[x,y,I tag,.t (tL l),I a,I c,I bl,.bp 0 0,.bp 1 0,.bp 2 0,u,v,.bp 3 0,I 0,w,p,q,r]) (H:=xF m ws [])
    (fun j=>⟨[.und,.und,I tag,.t (tL l),I a,I c,I bl,.bp 0 0,.bp 1 0,.bp 2 0,.und,.und,.bp 3 0,I j,.und,.und,.und,.und],xF m ws (mW m tag l a c bl ws j)⟩) ws.length (yy m tag l a c bl ws)
    (fun j q=>q.1= .ret∧q.2.vs[9]?=some (.bp 2 0)∧q.2.vs[10]?=some (I (tM m tag l a c bl (nth ws j)).2)∧q.2.H[2]?=some (.box [.t (.sl (ws.map World.e))]))
    (.exit 0,⟨[.und,.und,I tag,.t (tL l),I a,I c,I bl,.bp 0 0,.bp 1 0,.bp 2 0,.und,.und,.bp 3 0,I ws.length,.und,.und,.und,.und],xF m ws (mW m tag l a c bl ws ws.length)⟩) rfl
    (fun j hj hq=>by
     have:=ln j
     have hq:¬((tM m tag l a c bl (nth ws j)).2=6∨(tM m tag l a c bl (nth ws j)).2=8):=by simpa [yy]using hq
     obtain⟨b1,b2⟩:=bb j hj
     exact(ER h ws s1 tag l hp a c bl j hj (s2 _ (af hj)) b1 b2 (mW m tag l a c bl ws j) (by omega)).1 (by omega))
    (fun j hj hq=>by
     have:=ln j
     have hq:(tM m tag l a c bl (nth ws j)).2=6∨(tM m tag l a c bl (nth ws j)).2=8:=by simpa [yy]using hq
     obtain⟨b1,b2⟩:=bb j hj
     obtain⟨vs,H,q1,q2⟩:=(ER h ws s1 tag l hp a c bl j hj (s2 _ (af hj)) b1 b2 (mW m tag l a c bl ws j) (by omega)).2 hq
     exact⟨_,q1,by simp,rfl,q2⟩)
    (by
     have:=ln ws.length
     generalize mW m tag l a c bl ws ws.length=L at*
     simp(disch:=omega)only[go_sem,K.dD,↓reduceIte,xF,reduceAdd,reduceSub]) (by simp)
   rcases loop (.t m.e) (.t (Bel.e ⟨ws⟩)) (I 0) (I 0) .und .und .und .und with⟨e1,e2⟩ | ⟨j,⟨x,vs,H⟩,e1,e2,e3,e4,e5,e6⟩
   · have e2:exS aH K.oh _=_:=e2
     simp only[xF,List.map_nil,List.length_nil]at e2
     have:=ln ws.length
     rw[e1]
     generalize mW m tag l a c bl ws ws.length=L at*
     simp(disch:=omega)only[go_sem,K.dM,↓reduceIte,cb,bo,e2,reduceAdd,reduceSub,ne_eq,not_true_eq_false]
   · have e2:exS aH K.oh _=_:=e2
     simp only[xF,List.map_nil,List.length_nil]at e2
     rw[e1]
     simp only at e3 e4 e5 e6
     subst e3
     simp(disch:=omega)only[go_sem,K.dM,↓reduceIte,cb,bo,e2,reduceAdd,reduceSub,ne_eq,not_true_eq_false,e4,e5,e6,List.take_zero]
 · obtain⟨ws⟩:=b
   simp(disch:=omega)only[go_sem,K.dM,↓reduceIte,cb,bo,e0,ne_eq,not_false_eq_true]
end Go.Ev
namespace Go.Ev
open Go
section
variable (H : ah) (sz id ep n lo hi : Nat) (i j : Int) (fz : Bool)
def scO(r:D):Option Obj→Option (D×ah)
 | some (.arr sz' _ ep' es)=>if ep=ep'∧n=es.length then(if sz'=sz then some (r,H)else none)else none
 | _=>none
@[go_sem] theorem af6 (r : D) (sz' : Nat) (pin : Bool) (es : List D) : scO H sz ep n r (some (.arr sz' pin ep es)) = if n = es.length then (if sz' = sz then some (r, H) else none) else none := by simp [scO]
theorem scR{l h:Nat}:((eY H id ep n).bind fun a=>if l≤h∧h≤n∧a.1=sz then some (D.sub id ep n l h)else none).map (fun d=>(d,H))=if l≤h then(if h≤n then scO H sz ep n (.sub id ep n l h) H[id]? else none)else none:=by
 simp only[eY]
 generalize H[id]?=o
 by_cases h1:l≤h
 · by_cases h2:h≤n
   · rw[if_pos h1,if_pos h2]
     rcases o with _ | (_ | ⟨sz',pin,ep',es⟩)
     · rfl
     · rfl
     · simp only[scO]
       by_cases h3:ep=ep'∧n=es.length
       · rw[if_pos h3,if_pos h3,aLq]
         by_cases h4:sz'=sz
         · rw[if_pos h4,if_pos ⟨h1,h2,h4⟩];rfl
         · rw[if_neg h4,if_neg fun h=>h4 h.2.2];rfl
       · rw[if_neg h3,if_neg h3];rfl
   · rw[if_pos h1,if_neg h2]
     rcases o with _ | (_ | ⟨sz',pin,ep',es⟩)
     · rfl
     · rfl
     · by_cases h3:ep=ep'∧n=es.length
       · simp only[if_pos h3,aLq];rw[if_neg fun h=>h2 h.2.1];rfl
       · simp only[if_neg h3];rfl
 · rw[if_neg h1]
   rcases o with _ | (_ | ⟨sz',pin,ep',es⟩)
   · rfl
   · rfl
   · by_cases h3:ep=ep'∧n=es.length
     · simp only[if_pos h3,aLq];rw[if_neg fun h=>h1 h.1];rfl
     · simp only[if_neg h3];rfl
@[go_sem] theorem Ui : Eu H sz (some (.ref id ep n)) (some none) (some (some i)) = if 0 ≤ i then (if i ≤ n then scO H sz ep n (.sub id ep n 0 i.toNat) H[id]? else none) else none := by
 simp only[Eu,aLq,oP,bound,idx]
 by_cases h1:0≤i
 · rw[if_pos h1,if_pos h1,aLq,scR,if_pos (Nat.zero_le _)]
   by_cases h2:i≤n
   · rw[if_pos h2,if_pos (by omega)]
   · rw[if_neg h2,if_neg (by omega)]
 · rw[if_neg h1,if_neg h1];rfl
@[go_sem] theorem Uj : Eu H sz (some (.ref id ep n)) (some (some i)) (some none) = if 0 ≤ i then (if i ≤ n then scO H sz ep n (.sub id ep n i.toNat n) H[id]? else none) else none := by
 simp only[Eu,aLq,oP,bound,idx]
 by_cases h1:0≤i
 · rw[if_pos h1,if_pos h1,aLq,scR]
   by_cases h2:i≤n
   · rw[if_pos h2,if_pos (by omega),if_pos (by omega)]
   · rw[if_neg h2,if_neg (by omega)]
 · rw[if_neg h1,if_neg h1];rfl
@[go_sem] theorem Pu : Eu H sz (some (.ref id ep n)) (some (some i)) (some (some j)) = if 0 ≤ i then (if i ≤ j then (if j ≤ n then scO H sz ep n (.sub id ep n i.toNat j.toNat) H[id]? else none) else none) else none := by
 simp only[Eu,aLq,oP,bound,idx]
 by_cases h1:0≤i
 · rw[if_pos h1,if_pos h1,aLq]
   by_cases h0:i≤j
   · rw[if_pos h0,if_pos (by omega),aLq,scR,if_pos (by omega)]
     by_cases h2:j≤n
     · rw[if_pos h2,if_pos (by omega)]
     · rw[if_neg h2,if_neg (by omega)]
   · rw[if_neg h0]
     by_cases h2:0≤j
     · rw[if_pos h2,aLq,scR,if_neg (by omega)]
     · rw[if_neg h2];rfl
 · rw[if_neg h1,if_neg h1];rfl
@[go_sem] theorem Uk : Eu H sz (some .nil) (some none) (some (some i)) = if i = 0 then some (.nil, H) else none := by
 simp only[Eu,aLq,oP,bound,idx]
 by_cases h1:0≤i
 · rw[if_pos h1,aLq]
   by_cases h2:i=0
   · rw[if_pos h2,if_pos (by omega)];rfl
   · rw[if_neg h2,if_neg (by omega)];rfl
 · rw[if_neg h1,if_neg (by omega)];rfl
@[go_sem] theorem Ul : Eu H sz (some .nil) (some (some i)) (some none) = if i = 0 then some (.nil, H) else none := by
 simp only[Eu,aLq,oP,bound,idx]
 by_cases h1:0≤i
 · rw[if_pos h1,aLq]
   by_cases h2:i=0
   · rw[if_pos h2,if_pos (by omega)];rfl
   · rw[if_neg h2,if_neg (by omega)];rfl
 · rw[if_neg h1,if_neg (by omega)];rfl
def IG(x:D)(ys:List D):Option (D×ah):=if cJ sz ys=true then(match x with
 | .nil=>if ys.length≤4294967296 then some (.ref H.length 0 ys.length,H++[.arr sz false 0 ys])else none
 | .ref id ep n=>yk H sz id ep n ys H[id]?
 | _=>none)else none
@[go_sem] theorem ado (ys : List D) : IG H sz .nil ys = if cJ sz ys = true then (if ys.length ≤ 4294967296 then some (.ref H.length 0 ys.length, H ++ [.arr sz false 0 ys]) else none) else none := (rfl)
@[go_sem] theorem adp (ys : List D) : IG H sz (.ref id ep n) ys = if cJ sz ys = true then yk H sz id ep n ys H[id]? else none := (rfl)
@[go_sem] theorem Rs : cJ sz [] = true := (rfl)
@[go_sem] theorem C0 (d : D) (r : List D) : cJ sz (d :: r) = o8 sz d.cells := by
 rw[Bool.eq_iff_iff,gj];simp[cJ]
def aaq(x:D):Option Obj→Option (D×ah)
 | some (.arr _ _ ep' es)=>if ep=ep'∧n=es.length then IG H sz x ((es.drop lo).take (hi-lo))else none
 | _=>none
def aar(x:D):Option Obj→Option (D×ah)
 | some (.arr _ _ ep' es)=>if ep=ep'∧n=es.length then IG H sz x es else none
 | _=>none
@[go_sem] theorem adq (x : D) (sz' : Nat) (pin : Bool) (es : List D) : aaq H sz ep n lo hi x (some (.arr sz' pin ep es)) = if n = es.length then IG H sz x ((es.drop lo).take (hi - lo)) else none := by simp [aaq]
@[go_sem] theorem adr (x : D) (sz' : Nat) (pin : Bool) (es : List D) : aar H sz ep n x (some (.arr sz' pin ep es)) = if n = es.length then IG H sz x es else none := by simp [aar]
theorem Mk(x:D)(ys:List D):(if cJ sz ys=true then(match x with
 | .nil=>if ys.length≤lim then some (D.ref H.length 0 ys.length,H++[.arr sz false 0 ys])else none
 | .ref id ep n=>(eY H id ep n).bind fun a=>if a.1=sz∧n+ys.length≤lim then some (.ref id ep (n+ys.length),H.set id (.arr sz a.2.1 ep (a.2.2++ys)))else none
 | _=>none)else none)=IG H sz x ys:=by
 unfold IG
 split
 · cases x with
   | ref id ep n=>
     simp only[eY]
     generalize H[id]?=o
     rcases o with _ | (_ | ⟨sz',pin,ep',es⟩)
     · rfl
     · rfl
     · simp only[yk]
       by_cases h1:ep=ep'∧n=es.length
       · rw[if_pos h1,aLq]
         by_cases h2:sz'=sz∧n+ys.length≤lim
         · rw[if_pos h2,if_pos ⟨h1.1,h1.2,h2⟩]
         · rw[if_neg h2,if_neg fun h=>h2 h.2.2]
       · rw[if_neg h1,if_neg fun h=>h1 ⟨h.1,h.2.1⟩];rfl
   | _=>rfl
 · rfl
theorem xG(x y:D)(ys:List D)(h:elems H y=some ys):qF H sz false (some x) (some y)=IG H sz x ys:=by
 simp only[qF,aLq,n9,h,aLt,if_false]
 exact Mk H sz x ys
@[go_sem] theorem Og (x : D) : qF H sz false (some x) (some .nil) = IG H sz x [] := xG H sz x .nil [] rfl
@[go_sem] theorem Oh (x : D) : qF H sz false (some x) (some (.ref id ep n)) = aar H sz ep n x H[id]? := by
 cases he:elems H (.ref id ep n)with
 | some ys=>
   rw[xG H sz x _ ys he]
   simp only[elems,eY]at he
   generalize H[id]?=o at he
   rcases o with _ | (_ | ⟨sz',pin,ep',es⟩)
   · cases he
   · cases he
   · simp only[aar]
     by_cases h1:ep=ep'∧n=es.length
     · simp only[if_pos h1]at he ⊢;cases he;rfl
     · simp only[if_neg h1]at he;cases he
 | none=>
   have:qF H sz false (some x) (some (.ref id ep n))=none:=by simp only[qF,aLq,n9,he];rfl
   rw[this]
   simp only[elems,eY]at he
   generalize H[id]?=o at he
   rcases o with _ | (_ | ⟨sz',pin,ep',es⟩)
   · rfl
   · rfl
   · simp only[aar]
     by_cases h1:ep=ep'∧n=es.length
     · simp only[if_pos h1]at he;cases he
     · simp only[if_neg h1]
@[go_sem] theorem Oi (x : D) : qF H sz false (some x) (some (.sub id ep n lo hi)) = aaq H sz ep n lo hi x H[id]? := by
 cases he:elems H (.sub id ep n lo hi)with
 | some ys=>
   rw[xG H sz x _ ys he]
   simp only[elems,eY]at he
   generalize H[id]?=o at he
   rcases o with _ | (_ | ⟨sz',pin,ep',es⟩)
   · cases he
   · cases he
   · simp only[aaq]
     by_cases h1:ep=ep'∧n=es.length
     · simp only[if_pos h1]at he ⊢;cases he;rfl
     · simp only[if_neg h1]at he;cases he
 | none=>
   have:qF H sz false (some x) (some (.sub id ep n lo hi))=none:=by simp only[qF,aLq,n9,he];rfl
   rw[this]
   simp only[elems,eY]at he
   generalize H[id]?=o at he
   rcases o with _ | (_ | ⟨sz',pin,ep',es⟩)
   · rfl
   · rfl
   · simp only[aaq]
     by_cases h1:ep=ep'∧n=es.length
     · simp only[if_pos h1]at he;cases he
     · simp only[if_neg h1]
def Xo(ep n lo hi:Nat):Option Obj→Option (List D)
 | some (.arr _ _ ep' es)=>if ep=ep'∧n=es.length then some ((es.drop lo).take (hi-lo))else none
 | _=>none
def ads(x:D):Option (List D)→Option (D×ah)
 | some ys0=>(bf (fun d=>(frz H depth d).map .t) ys0).bind fun ys=>if cJ sz ys then IG (pins H (ys0.flatMap (fm H depth))) sz x ys else none
 | none=>none
@[go_sem] theorem ahm (x : D) (ts : List T) : ads H sz x (some (ts.map .t)) = IG H sz x (ts.map .t) := by
 simp only[ads,tF,aLq,BX,pins]
 by_cases h:cJ sz (ts.map D.t)=true
 · rw[if_pos h]
 · rw[if_neg h];unfold IG;rw[if_neg h]
@[go_sem] theorem Pv (x : D) : qF H sz true (some x) (some (.sub id ep n lo hi)) = ads H sz x (Xo ep n lo hi H[id]?) := by
 have e:elems H (.sub id ep n lo hi)=Xo ep n lo hi H[id]?:=by
  simp only[elems,eY]
  generalize H[id]?=o
  rcases o with _ | (_ | ⟨sz',pin,ep',es⟩)
  · rfl
  · rfl
  · simp only[Xo]
    by_cases h1:ep=ep'∧n=es.length
    · simp only[if_pos h1];rfl
    · simp only[if_neg h1];rfl
 simp only[qF,aLq,n9,e]
 cases Xo ep n lo hi H[id]? with
 | none=>rfl
 | some ys0=>
   simp only[aLq,ads,if_true]
   cases hm:bf (fun d=>(frz H depth d).map D.t) ys0 with
   | none=>rfl
   | some ys=>
     simp only[aLq]
     refine(Mk _ _ _ _).trans ?_
     by_cases h:cJ sz ys=true
     · rw[if_pos h]
     · rw[if_neg h];unfold IG;rw[if_neg h]
@[go_sem] theorem adt (ep n lo hi sz : Nat) (pin : Bool) (ts : List T) : Xo ep n lo hi (some (.arr sz pin ep (ts.map .t))) = if n = ts.length then some (((ts.drop lo).take (hi - lo)).map .t) else none := by
 simp only[Xo,true_and,List.length_map,List.map_take,List.map_drop]
def Ml(ds:List D):Option (D×ah):=if ds.all (fun d=>d.cells.length==sz&&d.jD)then some (.ref H.length 0 ds.length,H++[.arr sz false 0 ds])else none
@[go_sem] theorem ahn (call : aV) (get : X → Option D) (xs : List X) : evO call get H (.bsr xs sz) = (bf get xs).bind (Ml H sz) := (rfl)
@[go_sem] theorem aas : Ml H sz [] = some (.ref H.length 0 0, H ++ [.arr sz false 0 []]) := (rfl)
@[go_sem] theorem aat (k : IntKind) (n : Int) : Ml H 1 [.t (.int k n)] = some (.ref H.length 0 1, H ++ [.arr 1 false 0 [.t (.int k n)]]) := (rfl)
@[go_sem] theorem aau (cs : List D) : Ml H sz [.agg cs] = if o8 sz cs = true then some (.ref H.length 0 1, H ++ [.arr sz false 0 [.agg cs]]) else none := by
 simp only[Ml,List.all_cons,List.all_nil,Bool.and_true,D.cells,D.jD]
 by_cases h:o8 sz cs=true
 · rw[if_pos h,if_pos (by simpa using gj.1 h)];rfl
 · rw[if_neg h,if_neg (by intro e;exact h (gj.2 (by simpa using e)))]
end
@[go_sem] theorem Rt : (1 : Int).toNat = 1 := (rfl)
@[go_sem] theorem Um : (2 : Int).toNat = 2 := (rfl)
@[go_sem] theorem Pw : (3 : Int).toNat = 3 := (rfl)
section
variable {H t : ah} {i j k : Nat} {o o' : Obj}
theorem gn(h:i<H.length):(H++t)[i]?=H[i]?:=aLg h
theorem dQ:(H++t)[H.length]?=t[0]?:=by rw[aLh (aLs _),Nat.sub_self]
theorem en:(H++t)[H.length+k]?=t[k]?:=by rw[aLh (Nat.le_add_right _ _),Nat.add_sub_cancel_left]
theorem yz(h:i<H.length):(H++t).set i o=H.set i o++t:=List.set_append_left _ _ h
theorem gO:(H++t).set H.length o=H++t.set 0 o:=by rw[List.set_append_right _ _ (aLs _),Nat.sub_self]
theorem xH:(H++t).set (H.length+k) o=H++t.set k o:=by rw[List.set_append_right _ _ (Nat.le_add_right _ _),Nat.add_sub_cancel_left]
theorem eo(h:i<H.length):(H.set i o)[i]?=some o:=by simp[h]
theorem bF(h:i≠j):(H.set i o)[j]?=H[j]?:=aLi h
theorem tN:(H.set i o).set i o'=H.set i o':=List.set_set ..
theorem lM(a b:ah):(H++a)++b=H++(a++b):=List.append_assoc ..
theorem jB(h:H[i]?=some o):i<H.length:=(aLe.1 h).1
end
theorem G4(H:ah)(id sz n:Nat)(es:List D)(ts:List T)(hid:H[id]?=some (.arr sz false 0 es))(hn:n=es.length)(hf:bf (frz H 8) es=some ts)(ha:∀i∈es.flatMap (fm H 8),i≠id):
 finish 0 1 H [.ref id 0 n]=some (.ref 0 0 n,[.arr sz false 0 (ts.map .t)]):=by
 have hold:([D.ref id 0 n].all (old 0 depth)&&(H.take 0).all (fun o=>o.ds.all (old 0 depth)))=false:=by
  simp[old,depth]
 have hmap:∀ {es:List D} {ts:List T},bf (frz H 8) es=some ts→bf (fun d=>(frz H 8 d).map D.t) es=some (ts.map .t):=by
  intro es
  induction es with
  | nil=>intro ts h;simp[bf]at h;subst h;rfl
  | cons e es ih=>
    intro ts h
    simp only[bf,aLa,aLb]at h
    obtain⟨y,hy,r,hr,rfl⟩:=h
    simp only[bf,hy,aLw,aLq,ih hr,List.map_cons]
 have hnew:(eV [] [id]).drop 0=[id]:=by simp[eV]
 have hall:(es.flatMap (fm H 8)).all (fun i=> !([]++[id]).contains i)=true:=by
  rw[aLx];intro i hi;simpa using ha i hi
 unfold finish
 rw[if_neg (by omega),aLq,hold,if_neg (by simp)]
 have hk:gB H (max 1 1) (List.range 0) ([D.ref id 0 n].flatMap (ids depth)++jA H (List.range 0))=some ([id],[.arr sz false 0 (ts.map .t)]):=by
  have e1:[D.ref id 0 n].flatMap (ids depth)++jA H (List.range 0)=[id]:=by simp[ids,depth,jA]
  rw[e1]
  simp only[Nat.max_self,List.range_zero]
  unfold gB
  simp only[List.length_nil,hnew,pick,hid,aLq,aLw,if_true,List.flatMap_cons,List.flatMap_nil,List.append_nil,Obj.ds,depth,hall,bf,dg,hmap hf]
  simp only[gB,aLw,List.append_nil,aLq]
 rw[hk]
 simp only[aLq,List.range_zero,List.nil_append,List.take_zero,ie,Nat.succ_ne_zero,if_false,Nat.one_ne_zero,List.all_nil,if_true,bf,ren,idxOf,aLw,b7,rS,depth]
 have:=uR (fun i=>if id=i then some 0 else Option.map (fun x=>x+1) none) ts
 simp only[depth]at this
 rw[this];rfl
end Go.Ev
namespace Go.Ev
open Go
variable [Lib] [cz] [bZ]
theorem zm{gc:Bool}{dead:List Nat}{c:C}{vs:List D}{H:ah}(P:Nat→St→Prop)(n:Nat)(Q:Ex×St→Prop)(h0:P 0 ⟨lk dead vs,H⟩)
 (hs:∀j st,j<n→P j st→∃st',dV gc dead st.H.length (exS aH c st)=some st'∧P (j+1) st')
 (he:∀st,P n st→∃q,exS aH c st=some q∧q.1≠ .normal∧Q q):∃q,exS aH (.loop gc dead c) ⟨vs,H⟩=some q∧Q q:=by
 have key:∀(k j:Nat) (st:St),j+k=n→P j st→∃q,nN gc dead (exS aH c) st=some q∧Q q:=by
  intro k
  induction k with
  | zero=>
    intro j st hj hp
    obtain⟨q,h1,h2,h3⟩:=he st (by rw[← hj];exact hp)
    exact⟨q,dq h1 h2,h3⟩
  | succ k ih=>
    intro j st hj hp
    obtain⟨st',h1,h2⟩:=hs j st (by omega) hp
    obtain⟨q,h3,h4⟩:=ih (j+1) st' (by omega) h2
    exact⟨q,iZ h1 h3,h4⟩
 exact key n 0 _ (by omega) h0
abbrev ints(l:List Int):List D:=(l.map (T.int .i64)).map .t
abbrev whs(l:List Wh):List D:=(l.map Wh.e).map .t
def c8(out:List World)(x:World):Nat:=match (List.range out.length).find? (fun k=> !sL (nth out k).tags x.tags)with
 | some k=>k
 | none=>out.length
theorem wB(out:List World)(x:World):c8 out x≤out.length:=by
 unfold c8
 split
 · rename_i k h;exact Nat.le_of_lt (xx h).1
 · exact aLs _
def jV(a b:List Wh):Nat→List Wh
 | 0=>a
 | p+1=>(jV a b p).set p (jh (nth a p) (nth b p)).1
theorem iY(a b:List Wh):∀p,(jV a b p).length=a.length
 | 0=>rfl
 | p+1=>by simp only[jV,List.length_set,iY a b p]
theorem Ao(a b:List Wh):∀p q,p≤q→nth (jV a b p) q=nth a q
 | 0,q,_=>rfl
 | p+1,q,h=>by
   have e:nth ((jV a b p).set p (jh (nth a p) (nth b p)).1) q=nth (jV a b p) q:=by
    unfold nth;rw[aLl,aLi (by omega),←aLl]
   simp only[jV,e]
   exact Ao a b p q (by omega)
def iM(a b:List Wh):List Wh:=jV a b (min a.length b.length)
def ji(out:List World)(x:World):List World:=
 if c8 out x<out.length∧(nth out (c8 out x)).tags=x.tags then out.set (c8 out x) ⟨x.tags,iM (nth out (c8 out x)).whr x.whr⟩
 else out.take (c8 out x)++[x]++out.drop (c8 out x)
def qg(l:List World):Nat→List World
 | 0=>[]
 | j+1=>ji (qg l j) (nth l j)
def qh(l:List World):List World:=qg l l.length
structure Rp(H:ah)(id:Nat)(es:List D)(fa fb:Nat→Nat)(out:List World):Prop where
 arr:H[id]?=some (.arr 2 false 0 es)
 len:es.length=out.length
 el:∀j,j<out.length→es[j]?=some (.agg [.ref (fa j) 0 (nth out j).tags.length,.ref (fb j) 0 (nth out j).whr.length])
 ha:∀j,j<out.length→H[fa j]?=some (.arr 1 false 0 (ints (nth out j).tags))
 hb:∀j,j<out.length→H[fb j]?=some (.arr 2 false 0 (whs (nth out j).whr))
 na:∀j,j<out.length→fa j≠id
 nb:∀j,j<out.length→fb j≠id
 nab:∀i j,i<out.length→j<out.length→fa i≠fb j
 nbb:∀i j,i<out.length→j<out.length→i≠j→fb i≠fb j
def Rep(H:ah)(v:D)(out:List World):Prop:=(v= .nil∧out=[])∨∃id es fa fb,v= .ref id 0 out.length∧0<out.length∧Rp H id es fa fb out
theorem Un(l:List World)(i:Nat)(hi:i<l.length)(out:List World)(ho:out.length≤1000000)(hso:∀x∈out,x.sz)(hsx:(nth l i).sz)(H:ah)(v:D)(hr:Rep H v out)(a b:D):
 exS aH K.qL ⟨[.t (.sl (l.map World.e)),a,v,I i,I 0,b],H⟩=some (.exit 2,⟨[.t (.sl (l.map World.e)),.und,v,I i,I (c8 out (nth l i)),.und],H⟩):=by
 rcases hr with⟨rfl,rfl⟩ | ⟨id,es,fa,fb,rfl,h0,hr⟩
 · have:c8 [] (nth l i)=0:=rfl
   rw[this]
   refine xv (dq ?_ (by simp))
   simp(disch:=omega)only[go_sem,K.kf,↓reduceIte,reduceAdd,reduceSub]
 · have key:exS aH K.qL ⟨[.t (.sl (l.map World.e)),a,.ref id 0 out.length,I i,I 0,b],H⟩=some (match (List.range out.length).find? (fun k=> !sL (nth out k).tags (nth l i).tags)with
    | some k=>(.exit 2,⟨[.t (.sl (l.map World.e)),.und,.ref id 0 out.length,I i,I k,.und],H⟩)
    | none=>(.exit 2,⟨[.t (.sl (l.map World.e)),.und,.ref id 0 out.length,I i,I out.length,.und],H⟩)):=by
    refine cP (fun k=>⟨[.t (.sl (l.map World.e)),.und,.ref id 0 out.length,I i,I k,.und],H⟩) out.length _ _ _ rfl ?_ ?_ ?_ (by simp)
    · intro k hk hp
      have hp:sL (nth out k).tags (nth l i).tags=true:=by simpa using hp
      have s1:=(hso _ (af hk)).1
      have s2:=hsx.1
      have ls:=GX (nth out k).tags (nth l i).tags s1 s2
      have e1:=hr.arr
      have e2:=hr.len
      have e3:=hr.el k hk
      have e4:=hr.ha k hk
      generalize nth out k=y at*
      obtain⟨ta,wa⟩:=y
      generalize hx:nth l i=x at*
      obtain⟨tb,wb⟩:=x
      simp only at s1 s2 ls e3 e4 hp
      simp(disch:=omega)only[go_sem,K.kf,↓reduceIte,reduceAdd,reduceSub,e1,e2,e3,e4,hx,ls,hp]
      done
    · intro k hk hp
      have hp:sL (nth out k).tags (nth l i).tags=false:=by simpa using hp
      have s1:=(hso _ (af hk)).1
      have s2:=hsx.1
      have ls:=GX (nth out k).tags (nth l i).tags s1 s2
      have e1:=hr.arr
      have e2:=hr.len
      have e3:=hr.el k hk
      have e4:=hr.ha k hk
      generalize nth out k=y at*
      obtain⟨ta,wa⟩:=y
      generalize hx:nth l i=x at*
      obtain⟨tb,wb⟩:=x
      simp only at s1 s2 ls e3 e4 hp
      refine⟨?_,by simp⟩
      simp(disch:=omega)only[go_sem,K.kf,↓reduceIte,reduceAdd,reduceSub,e1,e2,e3,e4,hx,ls,hp]
      done
    · simp(disch:=omega)only[go_sem,K.kf,↓reduceIte,reduceAdd,reduceSub]
   rw[key]
   unfold c8
   cases (List.range out.length).find? (fun k=> !sL (nth out k).tags (nth l i).tags)<;>rfl
@[go_sem] theorem adu (a b : Wh) : (jh a b).1.e = .agg [tI (jh a b).1.time, tL (jh a b).1.frm] := rfl
theorem Uo(l:List World)(i:Nat)(hi:i<l.length)(out:List World)(ho:out.length≤1000000)(hso:∀x∈out,x.sz)(hsx:(nth l i).sz)(H:ah)(id:Nat)(es:List D)(fa fb:Nat→Nat)
 (hr:Rp H id es fa fb out) (k:Nat) (hk:k<out.length) (a:D):
 exS aH K.vY ⟨[.t (.sl (l.map World.e)),a,.ref id 0 out.length,I i,I k,I 0],H⟩=
 some (.exit 4,⟨[.t (.sl (l.map World.e)),.und,.ref id 0 out.length,I i,I k,I ((min (nth out k).whr.length (nth l i).whr.length:Nat):Int)],H.set (fb k) (.arr 2 false 0 (whs (iM (nth out k).whr (nth l i).whr)))⟩):=by
 have e1:=hr.arr
 have e2:=hr.len
 have e3:=hr.el k hk
 have e5:=hr.hb k hk
 have e6:=hr.nb k hk
 have e7:=jB e5
 obtain⟨s1,s2,s3⟩:=hso _ (af hk)
 obtain⟨x1,x2,x3⟩:=hsx
 generalize nth out k=y at*
 obtain⟨ta,wa⟩:=y
 generalize hx:nth l i=x at*
 obtain⟨tb,wb⟩:=x
 simp only at s1 s2 s3 x1 x2 x3 e3 e5 ⊢
 have jl:=iY wa wb
 have q1:∀o,(H.set (fb k) o)[id]?=H[id]?:=fun o=>bF e6
 have q2:∀o,(H.set (fb k) o)[fb k]?=some o:=fun o=>eo e7
 refine dw (fun p=>⟨[.t (.sl (l.map World.e)),.und,.ref id 0 out.length,I i,I k,I p],H.set (fb k) (.arr 2 false 0 (whs (jV wa wb p)))⟩) (min wa.length wb.length) ?_ ?_ ?_ (by simp)
 · show(⟨_,H⟩:St)=⟨_,H.set (fb k) (.arr 2 false 0 (whs wa))⟩
   rw[CO e5];rfl
 · intro p hp
   have jp:=jl p
   have jn:=Ao wa wb p p (aLs _)
   have jo:=T9 (nth wa p) (nth wb p) (s3 _ (af (by omega)))
   have hj:jV wa wb (p+1)=(jV wa wb p).set p (jh (nth wa p) (nth wb p)).1:=rfl
   rw[hj]
   generalize jV wa wb p=J at*
   generalize hu:nth wb p=u at*
   generalize nth wa p=w at*
   generalize jh w u=r at*
   obtain⟨⟨rt,rf⟩,re⟩:=r
   simp only at jo ⊢
   simp(disch:=omega)only[go_sem,K.mN,↓reduceIte,reduceAdd,reduceSub,q1,q2,e1,e2,e3,tN,hx,hu,jn,jo]
 · have jp:=jl (min wa.length wb.length)
   have hj:iM wa wb=jV wa wb (min wa.length wb.length):=rfl
   rw[hj]
   generalize jV wa wb (min wa.length wb.length)=J at*
   by_cases c:wa.length≤wb.length
   · simp(disch:=omega)only[go_sem,K.mN,↓reduceIte,reduceAdd,reduceSub,q1,q2,e1,e2,e3,tN,hx,Nat.min_eq_left c]
   · have hm:min wa.length wb.length=wb.length:=by omega
     simp(disch:=omega)only[go_sem,K.mN,↓reduceIte,reduceAdd,reduceSub,q1,q2,e1,e2,e3,tN,hx,hm]
theorem yA{sz:Nat}{l:List D}(h:∀e∈l,e.cells.length=sz):cJ sz l=true:=by
 cases l with
 | nil=>rfl
 | cons d r=>rw[C0,gj];exact h d List.mem_cons_self
theorem Rp.size{H:ah}{id:Nat}{es:List D}{fa fb:Nat→Nat}{out:List World}(hr:Rp H id es fa fb out):∀e∈es,e.cells.length=2:=by
 intro e he
 obtain⟨j,hj⟩:=aLf.1 he
 have hl:=(aLe.1 hj).1
 rw[hr.el j (by rw[← hr.len];exact hl)]at hj
 cases hj;rfl
theorem Mm{α:Type}(l:List α)(k:Nat)(hk:k≤l.length)(x:α)(j:Nat):(l.take k++[x]++l.drop k)[j]?=if j<k then l[j]? else if j=k then some x else l[j-1]?:=by
 have hl:(l.take k).length=k:=by rw[List.length_take];omega
 rw[List.append_assoc]
 by_cases h1:j<k
 · rw[if_pos h1,aLg (by omega),List.getElem?_take_of_lt h1]
 · rw[if_neg h1,aLh (by omega),hl]
   by_cases h2:j=k
   · rw[if_pos h2,h2,Nat.sub_self];rfl
   · rw[if_neg h2,aLh (by simp;omega)]
     simp only[List.length_singleton,List.getElem?_drop]
     congr 1;omega
theorem G5{α:Type} [Dat α](l:List α)(k:Nat)(hk:k≤l.length)(x:α)(j:Nat):nth (l.take k++[x]++l.drop k) j=if j<k then nth l j else if j=k then x else nth l (j-1):=by
 unfold nth
 rw[aLl,Mm l k hk]
 split
 · rw[aLl]
 · split
   · rfl
   · rw[aLl]
theorem sO{α:Type} [Dat α](l:List α)(k:Nat)(hk:k<l.length)(x:α)(j:Nat):nth (l.set k x) j=if j=k then x else nth l j:=by
 unfold nth
 rw[aLl]
 by_cases h:j=k
 · rw[if_pos h,h,aLj hk];rfl
 · rw[if_neg h,aLi (fun e=>h e.symm),aLl]
theorem Rp.ins{H:ah}{id:Nat}{es:List D}{fa fb:Nat→Nat}{out:List World}(hr:Rp H id es fa fb out){k:Nat}(hk:k≤out.length)(x:World)(o:Obj):
 Rp (H++[.arr 2 false 0 (es.take k++[.agg [.ref (H.length+1) 0 x.tags.length,.ref (H.length+2) 0 x.whr.length]]++es.drop k),.arr 1 false 0 (ints x.tags),.arr 2 false 0 (whs x.whr),o]) H.length
  (es.take k++[.agg [.ref (H.length+1) 0 x.tags.length,.ref (H.length+2) 0 x.whr.length]]++es.drop k)
  (fun j=>if j<k then fa j else if j=k then H.length+1 else fa (j-1)) (fun j=>if j<k then fb j else if j=k then H.length+2 else fb (j-1)) (out.take k++[x]++out.drop k):=by
 have ol:(out.take k++[x]++out.drop k).length=out.length+1:=by
  rw[aLv,aLv,List.length_take,List.length_drop,List.length_singleton];omega
 have e2:=hr.len
 have ba:∀j,j<out.length→fa j<H.length:=fun j hj=>jB (hr.ha j hj)
 have bb:∀j,j<out.length→fb j<H.length:=fun j hj=>jB (hr.hb j hj)
 refine⟨dQ,?_,?_,?_,?_,?_,?_,?_,?_⟩
 · rw[ol,aLv,aLv,List.length_take,List.length_drop,List.length_singleton];omega
 · intro j hj
   rw[ol]at hj
   simp only[Mm es k (by omega),G5 out k hk]
   by_cases h1:j<k
   · simp only[if_pos h1];exact hr.el j (by omega)
   · by_cases h2:j=k
     · simp only[if_neg h1,if_pos h2]
     · simp only[if_neg h1,if_neg h2];exact hr.el (j-1) (by omega)
 · intro j hj
   rw[ol]at hj
   simp only[G5 out k hk]
   by_cases h1:j<k
   · simp only[if_pos h1];rw[gn (ba j (by omega))];exact hr.ha j (by omega)
   · by_cases h2:j=k
     · simp only[if_neg h1,if_pos h2];rw[en];rfl
     · simp only[if_neg h1,if_neg h2];rw[gn (ba (j-1) (by omega))];exact hr.ha (j-1) (by omega)
 · intro j hj
   rw[ol]at hj
   simp only[G5 out k hk]
   by_cases h1:j<k
   · simp only[if_pos h1];rw[gn (bb j (by omega))];exact hr.hb j (by omega)
   · by_cases h2:j=k
     · simp only[if_neg h1,if_pos h2];rw[en];rfl
     · simp only[if_neg h1,if_neg h2];rw[gn (bb (j-1) (by omega))];exact hr.hb (j-1) (by omega)
 · intro j hj
   rw[ol]at hj
   have b1:=ba j
   have b2:=ba (j-1)
   split
   · have:=b1 (by omega);omega
   · split
     · omega
     · have:=b2 (by omega);omega
 · intro j hj
   rw[ol]at hj
   have b1:=bb j
   have b2:=bb (j-1)
   split
   · have:=b1 (by omega);omega
   · split
     · omega
     · have:=b2 (by omega);omega
 · intro i j hi hj
   rw[ol]at hi hj
   have a1:=ba i
   have a2:=ba (i-1)
   have b1:=bb j
   have b2:=bb (j-1)
   by_cases h1:i<k
   · rw[if_pos h1]
     have:=a1 (by omega)
     by_cases h2:j<k
     · rw[if_pos h2];exact hr.nab i j (by omega) (by omega)
     · rw[if_neg h2]
       by_cases h3:j=k
       · rw[if_pos h3];omega
       · rw[if_neg h3];exact hr.nab i (j-1) (by omega) (by omega)
   · rw[if_neg h1]
     by_cases h4:i=k
     · rw[if_pos h4]
       split
       · have:=b1 (by omega);omega
       · split
         · omega
         · have:=b2 (by omega);omega
     · rw[if_neg h4]
       have:=a2 (by omega)
       by_cases h2:j<k
       · rw[if_pos h2];exact hr.nab (i-1) j (by omega) (by omega)
       · rw[if_neg h2]
         by_cases h3:j=k
         · rw[if_pos h3];omega
         · rw[if_neg h3];exact hr.nab (i-1) (j-1) (by omega) (by omega)
 · intro i j hi hj hne
   rw[ol]at hi hj
   have a1:=bb i
   have a2:=bb (i-1)
   have b1:=bb j
   have b2:=bb (j-1)
   by_cases h1:i<k
   · rw[if_pos h1]
     have:=a1 (by omega)
     by_cases h2:j<k
     · rw[if_pos h2];exact hr.nbb i j (by omega) (by omega) hne
     · rw[if_neg h2]
       by_cases h3:j=k
       · rw[if_pos h3];omega
       · rw[if_neg h3];exact hr.nbb i (j-1) (by omega) (by omega) (by omega)
   · rw[if_neg h1]
     by_cases h4:i=k
     · rw[if_pos h4]
       split
       · have:=b1 (by omega);omega
       · split
         · omega
         · have:=b2 (by omega);omega
     · rw[if_neg h4]
       have:=a2 (by omega)
       by_cases h2:j<k
       · rw[if_pos h2];exact hr.nbb (i-1) j (by omega) (by omega) (by omega)
       · rw[if_neg h2]
         by_cases h3:j=k
         · rw[if_pos h3];omega
         · rw[if_neg h3];exact hr.nbb (i-1) (j-1) (by omega) (by omega) (by omega)
theorem Rp.merge{H:ah}{id:Nat}{es:List D}{fa fb:Nat→Nat}{out:List World}(hr:Rp H id es fa fb out){k:Nat}(hk:k<out.length)(x:World)(ht:(nth out k).tags=x.tags)(hw:x.whr.length=(nth out k).whr.length):
 Rp (H.set (fb k) (.arr 2 false 0 (whs x.whr))) id es fa fb (out.set k x):=by
 have ol:(out.set k x).length=out.length:=List.length_set
 have nk:=hr.nb k hk
 have kl:=jB (hr.hb k hk)
 refine⟨by rw[bF nk];exact hr.arr,by rw[ol];exact hr.len,?_,?_,?_,by rw[ol];exact hr.na,by rw[ol];exact hr.nb,by rw[ol];exact hr.nab,by rw[ol];exact hr.nbb⟩
 · intro j hj
   rw[ol]at hj
   rw[hr.el j hj,sO out k hk]
   by_cases h:j=k
   · rw[if_pos h,h,ht,hw]
   · rw[if_neg h]
 · intro j hj
   rw[ol]at hj
   rw[bF (fun e=>hr.nab j k hj hk e.symm),hr.ha j hj,sO out k hk]
   by_cases h:j=k
   · rw[if_pos h,h,ht]
   · rw[if_neg h]
 · intro j hj
   rw[ol]at hj
   rw[sO out k hk]
   by_cases h:j=k
   · rw[if_pos h,h,eo kl]
   · rw[if_neg h,bF (fun e=>hr.nbb j k hj hk h e.symm)];exact hr.hb j hj
theorem J1(l:List World)(i:Nat)(hi:i<l.length)(hl:l.length≤1000000)(out:List World)(ho:out.length≤999999)(hso:∀x∈out,x.sz)(hsx:(nth l i).sz)(H:ah)(v:D)(hr:Rep H v out):
 ∃v' H',dV false [1,4,5] H.length (exS aH K.fe ⟨[.t (.sl (l.map World.e)),.und,v,I i,.und,.und],H⟩)=some ⟨[.t (.sl (l.map World.e)),.und,v',I (i+1),.und,.und],H'⟩∧Rep H' v' (ji out (nth l i)):=by
 have l2:=Un l i hi out (by omega) hso hsx H v hr
 have kl:=wB out (nth l i)
 have cw:=lL (nth l i) hsx
 rcases hr with⟨rfl,rfl⟩ | ⟨id,es,fa,fb,rfl,h0,hr⟩
 · have k0:c8 [] (nth l i)=0:=rfl
   rw[k0]at l2
   have t1:ji [] (nth l i)=[nth l i]:=rfl
   rw[t1]
   generalize hx:nth l i=x at*
   obtain⟨tb,wb⟩:=x
   simp only at cw
   have run:dV false [1,4,5] H.length (exS aH K.fe ⟨[.t (.sl (l.map World.e)),.und,.nil,I i,.und,.und],H⟩)=
    some ⟨[.t (.sl (l.map World.e)),.und,.ref H.length 0 1,I (i+1),.und,.und],H++[.arr 2 false 0 [.agg [.ref (H.length+1) 0 tb.length,.ref (H.length+2) 0 wb.length]],.arr 1 false 0 (ints tb),.arr 2 false 0 (whs wb),.arr 2 false 0 [.agg [.ref (H.length+1) 0 tb.length,.ref (H.length+2) 0 wb.length]]]⟩:=by
    simp(disch:=omega)only[go_sem,K.fe,↓reduceIte,reduceAdd,reduceSub,l2,hx,cw,dQ,en,gO,lM,Nat.add_assoc]
   refine⟨_,_,run,.inr ⟨H.length,_,fun _=>H.length+1,fun _=>H.length+2,rfl,by simp,⟨dQ,rfl,?_,?_,?_,?_,?_,?_,?_⟩⟩⟩
   all_goals skip
   · intro j hj;obtain rfl:j=0:=by simpa using hj
     rfl
   · intro j hj;obtain rfl:j=0:=by simpa using hj
     rw[en];rfl
   · intro j hj;obtain rfl:j=0:=by simpa using hj
     rw[en];rfl
   · intro j hj;omega
   · intro j hj;omega
   · intro i j hi hj;omega
   · intro i j hi hj hne
     have h1:i=0:=by simpa using hi
     have h2:j=0:=by simpa using hj
     omega
 · have e1:=hr.arr
   have e2:=hr.len
   have e7:=jB e1
   by_cases c:c8 out (nth l i)<out.length∧(nth out (c8 out (nth l i))).tags=(nth l i).tags
   · obtain⟨ck,ct⟩:=c
     have l3:=Uo l i hi out (by omega) hso hsx H id es fa fb hr (c8 out (nth l i)) ck
     have s1:=(hso _ (af ck)).1
     have sm:=xz (nth out (c8 out (nth l i))).tags (nth l i).tags (by omega)
     have t1:ji out (nth l i)=out.set (c8 out (nth l i)) ⟨(nth l i).tags,iM (nth out (c8 out (nth l i))).whr (nth l i).whr⟩:=by unfold ji;rw[if_pos ⟨ck,ct⟩]
     rw[t1]
     simp only[ct,decide_true]at sm
     generalize c8 out (nth l i)=k at*
     have e3:=hr.el k ck
     have e4:=hr.ha k ck
     have mg:=hr.merge ck ⟨(nth l i).tags,iM (nth out k).whr (nth l i).whr⟩ ct (iY _ _ _)
     refine⟨.ref id 0 out.length,_,?_,.inr ⟨id,es,fa,fb,by rw[List.length_set],by rw[List.length_set];omega,mg⟩⟩
     generalize nth out k=y at*
     obtain⟨ta,wa⟩:=y
     simp only at ct
     subst ct
     generalize hx:nth l i=x at*
     obtain⟨tb,wb⟩:=x
     simp only at s1 sm e3 e4 cw l3 ⊢
     simp(disch:=omega)only[go_sem,K.fe,↓reduceIte,reduceAdd,reduceSub,l2,l3,hx,cw,sm,e1,e2,e3,e4]
   · have t1:ji out (nth l i)=out.take (c8 out (nth l i))++[nth l i]++out.drop (c8 out (nth l i)):=by unfold ji;rw[if_neg c]
     rw[t1]
     generalize c8 out (nth l i)=k at*
     have hs1:cJ 2 (es.take k)=true:=yA fun e he=>hr.size e (List.mem_of_mem_take he)
     have hs2:cJ 2 (es.drop k)=true:=yA fun e he=>hr.size e (List.mem_of_mem_drop he)
     have hs3:(es.drop k).take (out.length-k)=es.drop k:=List.take_of_length_le (by simp[e2])
     have hs4:(es.take k).length=k:=by rw[List.length_take];omega
     have hs5:(es.drop k).length=out.length-k:=by rw[List.length_drop,e2]
     have hs6:k+(1+(out.length-k))=out.length+1:=by omega
     have s2:=hsx.1
     have run:dV false [1,4,5] H.length (exS aH K.fe ⟨[.t (.sl (l.map World.e)),.und,.ref id 0 out.length,I i,.und,.und],H⟩)=
      some ⟨[.t (.sl (l.map World.e)),.und,.ref H.length 0 (out.length+1),I (i+1),.und,.und],H++[.arr 2 false 0 (es.take k++[.agg [.ref (H.length+1) 0 (nth l i).tags.length,.ref (H.length+2) 0 (nth l i).whr.length]]++es.drop k),.arr 1 false 0 (ints (nth l i).tags),.arr 2 false 0 (whs (nth l i).whr),.arr 2 false 0 [.agg [.ref (H.length+1) 0 (nth l i).tags.length,.ref (H.length+2) 0 (nth l i).whr.length]]]⟩:=by
      by_cases ck:k<out.length
      · have s1:=(hso _ (af ck)).1
        have sm:=xz (nth out k).tags (nth l i).tags (by omega)
        have ct:¬(nth out k).tags=(nth l i).tags:=fun h=>c ⟨ck,h⟩
        have e3:=hr.el k ck
        have e4:=hr.ha k ck
        generalize nth out k=y at*
        obtain⟨ta,wa⟩:=y
        generalize hx:nth l i=x at*
        obtain⟨tb,wb⟩:=x
        simp only at s1 s2 sm e3 e4 ct cw
        simp only[ct,decide_false]at sm
        simp(disch:=omega)only[go_sem,K.fe,↓reduceIte,reduceAdd,reduceSub,l2,hx,cw,sm,e1,e2,e3,e4,hs1,hs2,hs3,hs4,hs5,hs6,gn,dQ,en,gO,lM,Nat.add_assoc,Nat.sub_zero]
      · have ek:k=out.length:=by omega
        subst ek
        generalize hx:nth l i=x at*
        obtain⟨tb,wb⟩:=x
        simp only at s2 cw
        simp(disch:=omega)only[go_sem,K.fe,↓reduceIte,reduceAdd,reduceSub,l2,hx,cw,e1,e2,hs1,hs2,hs3,hs4,hs5,hs6,gn,dQ,en,gO,lM,Nat.add_assoc,Nat.sub_zero]
     exact⟨_,_,run,.inr ⟨H.length,_,_,_,by rw[aLv,aLv,List.length_take,List.length_drop,List.length_singleton,Nat.min_eq_left kl];congr 1;omega,by rw[aLv,aLv,List.length_singleton];omega,hr.ins kl (nth l i) _⟩⟩
theorem wC(out:List World)(x:World):(ji out x).length≤out.length+1∧out.length≤(ji out x).length∧1≤(ji out x).length:=by
 have kl:=wB out x
 unfold ji
 split
 · rename_i h
   rw[List.length_set];omega
 · rw[aLv,aLv,List.length_take,List.length_drop,List.length_singleton];omega
theorem ET(l:List World):∀j,(qg l j).length≤j
 | 0=>aLs _
 | j+1=>by
   have:=ET l j
   have:=(wC (qg l j) (nth l j)).1
   simp only[qg];omega
theorem Mn(a b:Wh):(jh a b).1.frm.length≤a.frm.length:=by
 unfold jh
 split
 · simp only[mO];omega
 · simp
theorem IH(a b:List Wh)(n:Nat)(h:∀w∈a,w.frm.length≤n):∀p,p≤a.length→∀w∈jV a b p,w.frm.length≤n
 | 0,_,w,hw=>h w hw
 | p+1,hp,w,hw=>by
   simp only[jV]at hw
   rcases aLk hw with hw | rfl
   · exact IH a b n h p (by omega) w hw
   · exact Nat.le_trans (Mn _ _) (h _ (af (by omega)))
theorem Px{out:List World}{x:World}(ho:∀y∈out,y.sz)(hx:x.sz):∀y∈ji out x,y.sz:=by
 intro y hy
 unfold ji at hy
 split at hy
 · rename_i h
   rcases aLk hy with hy | rfl
   · exact ho y hy
   · obtain⟨s1,s2,s3⟩:=ho _ (af h.1)
     refine⟨hx.1,?_,?_⟩
     · show(jV _ _ _).length≤_
       rw[iY];exact s2
     · exact IH _ _ _ s3 _ (Nat.min_le_left _ _)
 · rcases List.mem_append.1 hy with hy | hy
   · rcases List.mem_append.1 hy with hy | hy
     · exact ho y (List.mem_of_mem_take hy)
     · rw[List.mem_singleton.1 hy];exact hx
   · exact ho y (List.mem_of_mem_drop hy)
theorem II{l:List World}(hl:∀x∈l,x.sz):∀j,j≤l.length→∀y∈qg l j,y.sz
 | 0,_,y,hy=>by simp[qg]at hy
 | j+1,h,y,hy=>Px (II hl j (by omega)) (hl _ (af (by omega))) y hy
theorem Rp.frz{H:ah}{id:Nat}{es:List D}{fa fb:Nat→Nat}{out:List World}(hr:Rp H id es fa fb out):
 bf (frz H 8) es=some (out.map World.e)∧∀i∈es.flatMap (fm H 8),i≠id:=by
 have hl:=hr.len
 have key:∀(j:Nat) (hj:j<out.length),Go.Ev.frz H 8 (.agg [.ref (fa j) 0 (nth out j).tags.length,.ref (fb j) 0 (nth out j).whr.length])=some (nth out j).e∧
  fm H 8 (.agg [.ref (fa j) 0 (nth out j).tags.length,.ref (fb j) 0 (nth out j).whr.length])=[fa j,fb j]:=by
  intro j hj
  have h1:=hr.ha j hj
  have h2:=hr.hb j hj
  simp(disch:=omega)only[go_sem,h1,h2,ints,whs,↓reduceIte]
 constructor
 · have:∀(es:List D) (ts:List T),es.length=ts.length→(∀(j:Nat) e t,es[j]?=some e→ts[j]?=some t→Go.Ev.frz H 8 e=some t)→bf (Go.Ev.frz H 8) es=some ts:=by
    intro es
    induction es with
    | nil=>intro ts h _;cases ts with
      | nil=>rfl
      | cons=>simp at h
    | cons e es ih=>
      intro ts h hh
      cases ts with
      | nil=>simp at h
      | cons t ts=>
        have h1:=hh 0 e t rfl rfl
        have h2:=ih ts (by simpa using h) fun j e t he ht=>hh (j+1) e t (by simpa using he) (by simpa using ht)
        simp only[bf,h1,aLq,h2,aLw]
   refine this es _ (by rw[List.length_map,hl]) fun j e t he ht=>?_
   have hj:j<out.length:=by rw[← hl];exact(aLe.1 he).1
   rw[hr.el j hj]at he
   rw[cI _ hj]at ht
   cases he;cases ht
   exact(key j hj).1
 · intro i hi
   obtain⟨e,he,hi⟩:=List.mem_flatMap.1 hi
   obtain⟨j,hj⟩:=aLf.1 he
   have hjl:j<out.length:=by rw[← hl];exact(aLe.1 hj).1
   rw[hr.el j hjl]at hj
   cases hj
   rw[(key j hjl).2]at hi
   simp only[List.mem_cons,List.not_mem_nil,or_false]at hi
   rcases hi with rfl | rfl
   · exact hr.na j hjl
   · exact hr.nb j hjl
theorem Up(l:List World)(h0:1≤l.length)(hl:l.length≤100000)(hs:∀x∈l,x.sz):
 aH 1 N.i6 [.t (.sl (l.map World.e))] []=some (.ref 0 0 (qh l).length,[.arr 2 false 0 (((qh l).map World.e).map .t)]):=by
 refine av K.sD rfl ?_
 have loop:∀a b c:D,∃q,exS aH K.vZ ⟨[.t (.sl (l.map World.e)),a,.nil,I 0,b,c],[]⟩=some q∧∃v H,q=(.exit 0,⟨[.t (.sl (l.map World.e)),.und,v,I l.length,.und,.und],H⟩)∧Rep H v (qh l):=by
  intro a b c
  refine zm (fun j st=>∃v H,st=⟨[.t (.sl (l.map World.e)),.und,v,I j,.und,.und],H⟩∧Rep H v (qg l j)) l.length _ ⟨.nil,[],rfl,.inl ⟨rfl,rfl⟩⟩ ?_ ?_
  · rintro j st hj ⟨v,H,rfl,hr⟩
    have ln:=ET l j
    obtain⟨v',H',h1,h2⟩:=J1 l j hj (by omega) (qg l j) (by omega) (II hs j (by omega)) (hs _ (af hj)) H v hr
    exact⟨_,h1,v',H',rfl,h2⟩
  · rintro st ⟨v,H,rfl,hr⟩
    refine⟨(.exit 0,⟨[.t (.sl (l.map World.e)),.und,v,I l.length,.und,.und],H⟩),?_,by simp,v,H,rfl,hr⟩
    simp(disch:=omega)only[go_sem,K.fe,↓reduceIte,reduceAdd,reduceSub]
 obtain⟨q,hq,v,H,rfl,hr⟩:=loop .nil .und .und
 have nz:1≤(qh l).length:=by
  unfold qh
  cases hn:l.length with
  | zero=>omega
  | succ n=>exact(wC _ _).2.2
 rcases hr with⟨rfl,he⟩ | ⟨id,es,fa,fb,rfl,h0,hr⟩
 · rw[he]at nz;simp at nz
 · obtain⟨f1,f2⟩:=hr.frz
   have fin:=G4 H id 2 (qh l).length es _ hr.arr hr.len.symm f1 f2
   simp(disch:=omega)only[go_sem,K.i6,↓reduceIte,reduceAdd,reduceSub,hq,fin]
@[go_sem] theorem af7 (H : ah) (a b : List T) : BW H 1 [.t (.sl a), .t (.sl b), .nil] = some (.t (.sl [.sl a, .sl b, .sl []]), H) := by
 simp only[BW,List.all_cons,List.all_nil,D.cells,T.cells,List.map_cons,List.map_nil,List.length_cons,List.length_nil,bf,frz,depth,fm,List.flatMap_cons,List.flatMap_nil,pins]
 rfl
def Py(c:Bool):Option Bool→Option Bool
 | some d=>some (c&&d)
 | none=>none
@[go_sem] theorem Xp (c d : Bool) : Py c (some d) = some (c && d) := (rfl)
@[go_sem] theorem Xq : nH [] [] = some true := (rfl)
@[go_sem] theorem Uq (k : IntKind) (a b : Int) (xs ys : List T) : nH (.int k a :: xs) (.int k b :: ys) = Py (decide (a = b)) (nH xs ys) := by
 simp only[nH,if_true,YF]
 cases nH xs ys<;>rfl
def Pz(H:ah)(neg:Bool):Option Bool→Option (D×ah)
 | some r=>some (.t (.bool (bif neg then !r else r)),H)
 | none=>none
@[go_sem] theorem Xr (H : ah) (r : Bool) : Pz H true (some r) = some (.t (.bool (!r)), H) := (rfl)
@[go_sem] theorem Ur (H : ah) (r : Bool) : Pz H false (some r) = some (.t (.bool r), H) := (rfl)
@[go_sem] theorem Us (H : ah) (n : Nat) (neg : Bool) (xs ys : List T) : sj H (.ints n) neg (some (.t (.agg xs))) (some (.t (.agg ys))) = if xs.length = n then Pz H neg (nH xs ys) else none := by
 simp only[sj,aLq,QQ,eqD]
 by_cases h:xs.length=n
 · simp only[if_pos h]
   cases nH xs ys with
   | none=>rfl
   | some r=>cases neg<;>rfl
 · simp only[if_neg h];rfl
@[go_sem] theorem Xs : ((2 : Nat) : Int) = 2 := (rfl)
@[go_sem] theorem Ru : ((3 : Nat) : Int) = 3 := (rfl)
def EU(n:Nat)(p:Nat→Bool):Nat:=((List.range n).find? p).getD 0
theorem Mo{gc:Bool}{dead:List Nat}{c:C}{vs:List D}{H:ah}(s:Nat→St)(n:Nat)(p:Nat→Bool)(e:Nat→Ex×St)(eN:Ex×St)
 (h0:(⟨lk dead vs,H⟩:St)=s 0)
 (hs:∀j,j<n→p j=false→dV gc dead (s j).H.length (exS aH c (s j))=some (s (j+1)))
 (he:∀j,j<n→p j=true→exS aH c (s j)=some (e j)∧(e j).1≠ .normal)
 (hN:exS aH c (s n)=some eN) (hn:eN.1≠ .normal):
 exS aH (.loop gc dead c) ⟨vs,H⟩=some (if(List.range n).any p=true then e (EU n p)else eN):=by
 rw[cP s n p e eN h0 hs he hN hn,←CR]
 unfold EU
 cases hf:(List.range n).find? p with
 | none=>simp
 | some k=>simp
theorem Ut{α:Type} [Dat α](l:List α)(p:α→Bool):((List.range l.length).any fun j=>p (nth l j))=l.any p:=by
 rw[Bool.eq_iff_iff,List.any_eq_true,List.any_eq_true]
 constructor
 · rintro ⟨j,hj,hp⟩
   exact⟨_,af (aLu.1 hj),hp⟩
 · rintro ⟨x,hx,hp⟩
   obtain⟨j,hj,rfl⟩:=List.getElem_of_mem hx
   exact⟨j,aLu.2 hj,by rw[bP (aLc hj)];exact hp⟩
theorem Mp(n:Nat)(p:Nat→Bool):(List.range n).all p= !((List.range n).any fun j=> !p j):=by
 rw[List.all_eq_not_any_not]
end Go.Ev
namespace Go.Ev.N
def Mq:Nat:=78
def KU:Nat:=79
def J2:Nat:=80
def Uu:Nat:=81
def Oj:Nat:=82
def Uv:Nat:=83
def Uw:Nat:=84
def Ux:Nat:=85
def Xt:Nat:=86
def Rv:Nat:=87
def Uy:Nat:=88
def Rw:Nat:=89
def Rx:Nat:=90
def Xu:Nat:=91
def Ry:Nat:=92
def Xv:Nat:=93
def km:Nat:=94
def aav:Nat:=95
def Uz:Nat:=96
def Xw:Nat:=97
def UA:Nat:=98
def UB:Nat:=99
def UC:Nat:=100
def Xx:Nat:=101
def aaw:Nat:=102
def Gd:Nat:=103
def PA:Nat:=104
def fy:Nat:=105
def Rz:Nat:=106
def Xy:Nat:=107
def Xz:Nat:=108
def UD:Nat:=109
def XA:Nat:=110
def XB:Nat:=111
def UE:Nat:=112
def UF:Nat:=113
def XC:Nat:=114
def RA:Nat:=115
def XD:Nat:=116
def XE:Nat:=117
def RB:Nat:=118
def RC:Nat:=119
def fg:Nat:=120
def fh:Nat:=121
def cq:Nat:=122
end Go.Ev.N
namespace Go.Ev.K
open Go.Ev
def rk:C:= (.seq (.ite [m v5,f 0 v1,g l0,m v4,a 2 l1 l0,f 1 l0,g l0,u (.ln l0),u (.bin .lss l7 l0)] [] 0 .skip (.exit 2)) (.seq (.blk 3 (.reg [m v3,f 0 v1,g l0,m v4,a 2 l1 l0,f 1 l0,g l0,m v5,a 2 l1 l0,f 0 l0,g l0,u (.mx [.l 10,.l 0]),x 3 l0] [])) (.reg [m v5,u (.bin .add l0 (.i 1)),x 5 l0] [])))
def yB:C:= .loop true [0,2] K.rk
def rm:C:= (.seq (.ite [m v4,f 0 v1,g l0,u (.ln l0),u (.bin .lss l3 l0)] [] 0 .skip (.exit 0)) (.seq (.blk 1 (q [x 5 (.i 0)] [] (.blk 2 K.yB))) (.reg [m v4,u (.bin .add l0 (.i 1)),x 4 l0] [])))
def yC:C:= .loop true [0,2,5] K.rm
def km:Fn:= { aU:=1,vars:=[0,1,2,3,4,5],body:=(q [w 1 (.bx v0 1),x 2 (.i 0)] [] (q [x 3 (.i 0)] [] (.seq (q [x 4 (.i 0)] [] (.blk 0 K.yC)) (q [m v3,x 2 l0] [] .ret)))),res:=[(2,none)]}
end Go.Ev.K
namespace Go.Ev
class gU [Lib]:Prop where
 vd:Lib.fs N.km=some K.km
namespace K
variable [Lib] [gU]
theorem vd:Lib.fs N.km=some K.km:=gU.vd
end K
end Go.Ev
namespace Go.Ev.K
open Go.Ev
def fO:C:= (.its [u (.bin .lss v8 v7)] [] 0 .skip (.exit 0) (.seq (.blk 1 (q [m v8,a 1 v6 v8,g l0,x 4 l2,x 5 l1] [] (.ite [m v5,m v1,u (.bin .lss l1 l0),m l0,e 0 false v5,e 1 false v2,y 2 false (.bin .gtr l1 l0),u (.pk l3 (.b true) l0),m l0,e 0 false v4,y 1 false (.bin .gtr l0 (.i 0)),e 2 false l0,e 0 true v5,e 1 true v0,e 2 true v4,y 3 true (.bin .sub l0 (.i 1)),y 4 true (.ia l2 l0 1),i 5 true l0,y 6 true (.bin .leq l5 l0),y 10 false (.pk l7 l0 (.b false)),u (.pk l11 (.b true) l0)] [] 0 (q [x 3 (.b false)] [] .ret) .skip))) (.reg [u (.bin .add v8 (.i 1)),x 8 l0] [])))
def sP:C:= .loop true [3,4,5] K.fO
def fy:Fn:= { aU:=3,vars:=[0,1,2,6,7,8,9,10,11],body:=(q [x 3 (.b false)] [] (.seq (q [x 6 v0,w 7 (.ln l0),x 8 (.i 0)] [] (.blk 0 K.sP)) (q [x 3 (.b true)] [] .ret))),res:=[(3,none)]}
def mC:C:= (.seq (.ite [m v4,f 0 v1,g l0,u (.ln l0),u (.bin .lss l3 l0)] [] 0 .skip (.exit 0)) (.seq (.blk 1 (.reg [f 0 v3,g l0,f 0 v1,g l0,m v4,a 2 l1 l0,h 2 l0,u (.ca N.bE 1 [] [.l 0]),u (.bsr [.l 0] 2),u (.app l7 l0 false 2),f 0 v3,u (.st l0 l1 1 [])] [(1,8),(1,9)])) (.reg [m v4,u (.bin .add l0 (.i 1)),x 4 l0] [])))
def rO:C:= .loop false [0] K.mC
def fg:Fn:= { aU:=1,vars:=[0,1,2,3,4],body:=(q [w 1 (.bx v0 1),w 2 (.al [.nil] [])] [] (q [w 3 (.al [.nil] [(0,2)])] [] (.seq (q [x 4 (.i 0)] [] (.blk 0 K.rO)) (q [h 1 v3,u (.st v2 l0 1 [])] [] .ret)))),res:=[(2,some (1,true))]}
def mD:C:= (.seq (.ite [m v4,f 0 v1,g l0,u (.ln l0),u (.bin .lss l3 l0)] [] 0 .skip (.exit 0)) (.seq (.blk 1 (.reg [f 0 v3,g l0,f 0 v1,g l0,m v4,a 2 l1 l0,h 2 l0,u (.ca N.cq 2 [] [.l 0]),u (.bsr [.l 0] 2),u (.app l7 l0 false 2),f 0 v3,u (.st l0 l1 1 [])] [(1,8),(1,9)])) (.reg [m v4,u (.bin .add l0 (.i 1)),x 4 l0] [])))
def rP:C:= .loop false [0] K.mD
def fh:Fn:= { aU:=1,vars:=[0,1,2,3,4],body:=(q [w 1 (.bx v0 1),w 2 (.al [.nil] [])] [] (q [w 3 (.al [.nil] [(0,2)])] [] (.seq (q [x 4 (.i 0)] [] (.blk 0 K.rP)) (q [h 1 v3,u (.st v2 l0 1 [])] [] .ret)))),res:=[(2,some (1,true))]}
def jj:C:= (.seq (.ite [m v4,f 1 v1,g l0,u (.ln l0),u (.bin .lss l3 l0)] [] 0 .skip (.exit 0)) (.seq (.blk 1 (.reg [f 1 v3,g l0,f 1 v1,g l0,m v4,a 2 l1 l0,h 2 l0,u (.ca N.b9 1 [] [.l 0]),u (.bsr [.l 0] 2),u (.app l7 l0 false 2),f 1 v3,u (.st l0 l1 1 [])] [(1,8),(1,9)])) (.reg [m v4,u (.bin .add l0 (.i 1)),x 4 l0] [])))
def mX:C:= .loop false [0] K.jj
def cq:Fn:= { aU:=1,vars:=[0,1,2,3,4],body:=(q [w 1 (.bx v0 2),w 2 (.al [.nil,.nil] [])] [] (q [f 0 v1,g l0,u (.app (.c (.nil)) l0 false 1),u (.bd [.nil,.nil] [(0,1,.l 0)]),w 3 (.al [.nil,.nil] [(1,2)]),u (.st l0 l1 2 [(1,2)])] [] (.seq (q [x 4 (.i 0)] [] (.blk 0 K.mX)) (q [h 2 v3,u (.st v2 l0 2 [])] [] .ret)))),res:=[(2,some (2,true))]}
end Go.Ev.K
namespace Go.Ev
class gJ [Lib]:Prop where
 px:Lib.fs N.fy=some K.fy
 oy:Lib.fs N.fg=some K.fg
 oz:Lib.fs N.fh=some K.fh
 j6:Lib.fs N.cq=some K.cq
namespace K
variable [Lib] [gJ]
theorem px:Lib.fs N.fy=some K.fy:=gJ.px
theorem oy:Lib.fs N.fg=some K.fg:=gJ.oy
theorem oz:Lib.fs N.fh=some K.fh:=gJ.oz
theorem j6:Lib.fs N.cq=some K.cq:=gJ.j6
end K
end Go.Ev
namespace Go.Ev
open Go
variable [Lib] [cz] [bZ] [gU] [gJ]
def Mr(l:List Int)(lo hi:Int)(j:Nat):Bool:= !decide (lo≤nth l j∧nth l j≤hi∧(0<j→nth l (j-1)<nth l j))
def RD(l:List Int)(lo hi:Int):Bool:= !((List.range l.length).any (Mr l lo hi))
theorem EW(l:List Int)(lo hi:Int)(hl:l.length≤4294967296):aH 0 N.fy [.t (tL l),I lo,I hi] []=some (B (RD l lo hi),[]):=by
 refine av K.px rfl ?_
 have loop:∀a b c:D,exS aH K.sP ⟨[.t (tL l),I lo,I hi,a,b,c,.t (tL l),I l.length,I 0],[]⟩=
  some (if(List.range l.length).any (Mr l lo hi)=true
   then(.ret,⟨[.t (tL l),I lo,I hi,B false,I (EU l.length (Mr l lo hi)),I (nth l (EU l.length (Mr l lo hi))),.t (tL l),I l.length,I (EU l.length (Mr l lo hi))],[]⟩)
   else(.exit 0,⟨[.t (tL l),I lo,I hi,.und,.und,.und,.t (tL l),I l.length,I l.length],[]⟩)):=by
  intro a b c
  refine Mo (fun j=>⟨[.t (tL l),I lo,I hi,.und,.und,.und,.t (tL l),I l.length,I j],[]⟩) l.length (Mr l lo hi) (fun j=>(.ret,⟨[.t (tL l),I lo,I hi,B false,I j,I (nth l j),.t (tL l),I l.length,I j],[]⟩)) _ rfl ?_ ?_ ?_ (by simp)
  · intro j hj hp
    simp only[Mr,Bool.not_eq_false',decide_eq_true_eq]at hp
    obtain⟨h1,h2,h3⟩:=hp
    cases j with
    | zero=>simp(disch:=omega)only[go_sem,K.fO,↓reduceIte]
    | succ j=>
      have h3:=h3 (by omega)
      rw[Nat.add_sub_cancel]at h3
      simp(disch:=omega)only[go_sem,K.fO,↓reduceIte]
  · intro j hj hp
    simp only[Mr,Bool.not_eq_true',decide_eq_false_iff_not]at hp
    refine⟨?_,by simp⟩
    by_cases h1:lo≤nth l j
    · by_cases h2:nth l j≤hi
      · cases j with
        | zero=>exact absurd ⟨h1,h2,fun h=>absurd h (by omega)⟩ hp
        | succ j=>
          have h3:¬nth l j<nth l (j+1):=fun h=>hp ⟨h1,h2,fun _=>by simpa using h⟩
          simp(disch:=omega)only[go_sem,K.fO,↓reduceIte]
      · simp(disch:=omega)only[go_sem,K.fO,↓reduceIte]
    · simp(disch:=omega)only[go_sem,K.fO,↓reduceIte]
  · simp(disch:=omega)only[go_sem,K.fO,↓reduceIte]
 unfold RD
 simp(disch:=omega)only[go_sem,K.fy,↓reduceIte,loop]
 cases hf:(List.range l.length).any (Mr l lo hi)with
 | true=>simp(disch:=omega)only[go_sem,↓reduceIte]
 | false=>simp(disch:=omega)only[go_sem,↓reduceIte,aLt]
theorem UG(l:List Int)(n:Int):RD l 0 (n-1)=A9 l n:=by
 unfold RD A9
 rw[Mp]
 refine congrArg (!·) (congrArg _ (funext fun j=>?_))
 unfold Mr
 refine congrArg (!·) (decide_eq_decide.2 ⟨fun h=>⟨h.1,by omega,h.2.2⟩,fun h=>⟨h.1,by omega,h.2.2⟩⟩)
structure adv where
 st:Int
 fi:Int
 se:Int
 ti:Int
abbrev adv.e(s:adv):T:= .agg [tI s.st,tI s.fi,tI s.se,tI s.ti]
structure PB where
 area:List Int
 hold:Int
 mis:Int
abbrev PB.e(x:PB):T:= .agg [tL x.area,tI x.hold,tI x.mis]
structure Keys where
 roads:List Int
 keys:List Int
 out:Bool
abbrev Keys.e(k:Keys):T:= .agg [tL k.roads,tL k.keys,.bool k.out]
abbrev never:Int:=1099511627776
abbrev Wh.box(w:Wh):Obj:= .box [I w.time,.t (tL w.frm)]
abbrev tX(xs:List World):T:= .sl (xs.map World.e)
theorem j7{α β γ:Type}{f:β→Option γ}{g:α→β}{h:α→γ}:∀ {l:List α},(∀x∈l,f (g x)=some (h x))→bf f (l.map g)=some (l.map h)
 | [],_=>rfl
 | a::l,hh=>by
   have ih:=j7 (f:=f) (g:=g) (h:=h) (l:=l) fun x hx=>hh x (List.mem_cons_of_mem _ hx)
   simp only[List.map_cons,bf,hh a List.mem_cons_self,aLq,ih,aLw]
theorem sQ{α:Type}(f g:Nat→α):∀n,(List.range n).flatMap (fun i=>[f i,g i])=(List.range (2*n)).map (fun k=>if k % 2=0 then f (k / 2)else g (k / 2))
 | 0=>rfl
 | n+1=>by
   have e:2*(n+1)=2*n+1+1:=by omega
   have e1:(2*n) % 2=0:=by omega
   have e2:¬(2*n+1) % 2=0:=by omega
   have e3:(2*n) / 2=n:=by omega
   have e4:(2*n+1) / 2=n:=by omega
   rw[List.range_succ,List.flatMap_append,sQ f g n,e,List.range_succ,List.range_succ,List.map_append,List.map_append]
   simp only[List.map_cons,List.map_nil,List.flatMap_cons,List.flatMap_nil,if_pos e1,if_neg e2,e3,e4,List.append_assoc,List.append_nil,List.cons_append,List.nil_append]
def PC(s:Nat)(ws:List World)(i:Nat):D:= .agg [.ref (s+2*i+1) 0 (nth ws i).tags.length,.ref (s+2*i+2) 0 (nth ws i).whr.length]
def C1(ws:List World)(k:Nat):Obj:=if k % 2=0 then .arr 1 false 0 (ints (nth ws (k / 2)).tags)else .arr 2 false 0 (whs (nth ws (k / 2)).whr)
def cpH(s:Nat)(ws:List World):ah:= .arr 2 false 0 ((List.range ws.length).map (PC s ws))::(List.range (2*ws.length)).map (C1 ws)
theorem IJ(f:Nat→Option Nat)(ws:List World)(k:Nat):b7 f (C1 ws k)=some (C1 ws k):=by
 unfold C1
 split<;>simp only[b7,ints,whs,uR,aLw]
theorem RE(s:Nat)(ws:List World):bf (b7 (bO [] s)) (cpH 0 ws)=some (cpH s ws):=by
 have e1:∀i:Nat,bO [] s (0+2*i+1)=some (s+2*i+1):=fun i=>by simp[bO];omega
 have e2:∀i:Nat,bO [] s (0+2*i+2)=some (s+2*i+2):=fun i=>by simp[bO];omega
 have h1:bf (ren (bO [] s) depth) ((List.range ws.length).map (PC 0 ws))=some ((List.range ws.length).map (PC s ws)):=j7 fun i _=>by
  simp only[PC,depth,ren,bf,e1,e2,aLw,aLq]
 have h2:bf (b7 (bO [] s)) ((List.range (2*ws.length)).map (C1 ws))=some ((List.range (2*ws.length)).map (C1 ws)):=j7 fun k _=>IJ _ ws k
 unfold cpH
 simp only[bf,b7,h1,h2,aLw,aLq]
def tW(n:Nat):List Nat:=(List.range (2*n)).map (fun k=>if k % 2=0 then 4+3*(k / 2)else 5+3*(k / 2))
theorem G6(n:Nat):([3]++tW n).Nodup:=by
 have h:(tW n).Pairwise (· < ·):=by
  unfold tW
  rw[List.pairwise_map]
  refine List.Pairwise.imp (fun{a b} hab=>?_) List.pairwise_lt_range
  have:a<b:=hab
  split<;>split<;>omega
 rw[List.singleton_append,List.nodup_cons]
 refine⟨fun hm=>?_,List.Pairwise.imp (fun{a b} hab=>Nat.ne_of_lt hab) h⟩
 unfold tW at hm
 obtain⟨k,_,hk⟩:=List.mem_map.1 hm
 split at hk<;>omega
theorem EX(n k:Nat)(h:k<2*n):([3]++tW n)[k+1]?=some (if k % 2=0 then 4+3*(k / 2)else 5+3*(k / 2)):=by
 unfold tW
 rw[List.singleton_append,List.getElem?_cons_succ,aLn,aLp h];rfl
theorem J3(H:ah)(ws:List World)(h3:H[3]?=some (.arr 2 false 0 ((List.range ws.length).map (fun i=>D.agg [.ref (4+3*i) 0 (nth ws i).tags.length,.ref (5+3*i) 0 (nth ws i).whr.length]))))
 (ha:∀i,i<ws.length→H[4+3*i]?=some (.arr 1 false 0 (ints (nth ws i).tags))) (hb:∀i,i<ws.length→H[5+3*i]?=some (.arr 2 false 0 (whs (nth ws i).whr))):
 finish 0 2 H [.agg [.ref 3 0 ws.length]]=some (.agg [.ref 0 0 ws.length],cpH 0 ws):=by
 have hold:([D.agg [.ref 3 0 ws.length]].all (old 0 depth)&&(H.take 0).all (fun o=>o.ds.all (old 0 depth)))=false:=by simp[old,depth]
 have nd:=G6 ws.length
 have hids:jA H [3]=tW ws.length:=by
  simp only[jA,List.flatMap_cons,List.flatMap_nil,List.append_nil,h3,Obj.ds,List.flatMap_map]
  simp only[ids,depth,List.flatMap_cons,List.flatMap_nil,List.append_nil,List.cons_append,List.nil_append]
  exact sQ _ _ _
 have hpick:pick H (tW ws.length)=some ((List.range (2*ws.length)).map (C1 ws)):=by
  refine qa (by unfold tW;simp) fun k i o hk ho=>?_
  unfold tW at hk
  rw[aLn]at hk ho
  have hl:k<2*ws.length:=by
   cases hr:(List.range (2*ws.length))[k]? with
   | none=>rw[hr]at hk;simp at hk
   | some v=>have:=(aLe.1 hr).1;simpa using this
  rw[aLp hl]at hk ho
  simp only[aLw,Option.some.injEq]at hk ho
  subst hk;subst ho
  unfold C1
  split
  · exact ha _ (by omega)
  · exact hb _ (by omega)
 have hch:(((List.range (2*ws.length)).map (C1 ws)).flatMap fun o=>o.ds.flatMap (fm H depth))=[]:=by
  rw[List.flatMap_eq_nil_iff]
  intro o ho
  obtain⟨k,_,rfl⟩:=List.mem_map.1 ho
  unfold C1
  split<;>simp only[Obj.ds,ints,whs,BX]
 have hfz:bf (dg H) ((List.range (2*ws.length)).map (C1 ws))=some ((List.range (2*ws.length)).map (C1 ws)):=j7 fun k _=>by
  have key:∀ts:List T,bf (fun d=>(frz H depth d).map D.t) (ts.map .t)=some (ts.map .t):=fun ts=>j7 fun x _=>by simp only[ZH,aLw]
  unfold C1
  split<;>simp only[dg,ints,whs,key,aLw]
 have hk:gB H (max 2 1) (List.range 0) ([D.agg [.ref 3 0 ws.length]].flatMap (ids depth)++jA H (List.range 0))=
  some ([3]++tW ws.length,.arr 2 false 0 ((List.range ws.length).map (fun i=>D.agg [.ref (4+3*i) 0 (nth ws i).tags.length,.ref (5+3*i) 0 (nth ws i).whr.length]))::(List.range (2*ws.length)).map (C1 ws)):=by
  have e1:[D.agg [.ref 3 0 ws.length]].flatMap (ids depth)++jA H (List.range 0)=[3]:=by simp[ids,depth,jA]
  have hnew:(eV [] [3]).drop 0=[3]:=by simp[eV]
  have hm:max 2 1=1+1:=rfl
  rw[e1,hm]
  simp only[List.range_zero]
  unfold gB
  simp only[List.length_nil,hnew,pick,h3,aLq,aLw,Nat.one_ne_zero,if_false]
  unfold gB
  simp only[List.nil_append,hids,jS _ _ nd,List.length_singleton,List.drop_left',hpick,aLq,if_true,hch,List.all_nil,hfz,gB,aLw,List.append_nil,List.singleton_append,List.drop_one,List.tail_cons]
 unfold finish
 rw[if_neg (by omega),aLq,hold,if_neg (by simp),hk]
 have i0:idxOf ([3]++tW ws.length) 3=some 0:=rfl
 have iA:∀i,i<ws.length→idxOf ([3]++tW ws.length) (4+3*i)=some (0+2*i+1):=fun i hi=>by
  have g:=EX ws.length (2*i) (by omega)
  rw[if_pos (by omega),show 4+3*(2*i / 2)=4+3*i by omega]at g
  rw[show 0+2*i+1=2*i+1 by omega]
  exact iL _ _ _ nd g
 have iB:∀i,i<ws.length→idxOf ([3]++tW ws.length) (5+3*i)=some (0+2*i+2):=fun i hi=>by
  have g:=EX ws.length (2*i+1) (by omega)
  rw[if_neg (by omega),show 5+3*((2*i+1) / 2)=5+3*i by omega]at g
  rw[show 0+2*i+2=2*i+1+1 by omega]
  exact iL _ _ _ nd g
 have hes:bf (ren (idxOf ([3]++tW ws.length)) depth) ((List.range ws.length).map (fun i=>D.agg [.ref (4+3*i) 0 (nth ws i).tags.length,.ref (5+3*i) 0 (nth ws i).whr.length]))=some ((List.range ws.length).map (PC 0 ws)):=j7 fun i hi=>by
  have hi:=aLu.1 hi
  simp only[PC,depth,ren,bf,iA i hi,iB i hi,aLw,aLq]
 have hob:bf (b7 (idxOf ([3]++tW ws.length))) ((List.range (2*ws.length)).map (C1 ws))=some ((List.range (2*ws.length)).map (C1 ws)):=j7 fun k _=>IJ _ ws k
 simp only[depth]at hes
 simp only[aLq,List.range_zero,List.nil_append,List.take_zero,ie,Nat.succ_ne_zero,if_false,List.all_nil,if_true,bf,b7,hes,hob,ren,depth,i0,aLw,rS,cpH]
theorem Ms{H t:ah}{i k:Nat}{o:Obj}(h:i<H.length):(H.set k o++t)[i]?=(H.set k o)[i]?:=aLg (by rw[List.length_set];exact h)
theorem Mt{H t:ah}{i k:Nat}{o o':Obj}(h:i<H.length):(H.set k o++t).set i o'=(H.set k o).set i o'++t:=List.set_append_left _ _ (by rw[List.length_set];exact h)
theorem J4(l:List World)(h1:l.length≤1000000)(h2:∀x∈l,x.sz)(a:D):∃q,exS aH K.rO ⟨[a,.bp 0 0,.bp 1 0,.bp 2 0,I 0],[.box [.t (tX l)],.box [.nil],.box [.ref 3 0 0],.arr 2 false 0 []]⟩=some q∧
 ∃H,q=(.exit 0,⟨[.und,.bp 0 0,.bp 1 0,.bp 2 0,I l.length],H⟩)∧H[1]?=some (.box [.nil])∧H[2]?=some (.box [.ref 3 0 l.length])∧
  H[3]?=some (.arr 2 false 0 ((List.range l.length).map (fun i=>D.agg [.ref (4+3*i) 0 (nth l i).tags.length,.ref (5+3*i) 0 (nth l i).whr.length])))∧
  (∀i,i<l.length→H[4+3*i]?=some (.arr 1 false 0 (ints (nth l i).tags)))∧(∀i,i<l.length→H[5+3*i]?=some (.arr 2 false 0 (whs (nth l i).whr))):=by
 refine zm (fun j st=>∃H,st=⟨[.und,.bp 0 0,.bp 1 0,.bp 2 0,I j],H⟩∧H.length=4+3*j∧H[0]?=some (.box [.t (tX l)])∧H[1]?=some (.box [.nil])∧H[2]?=some (.box [.ref 3 0 j])∧
  H[3]?=some (.arr 2 false 0 ((List.range j).map (fun i=>D.agg [.ref (4+3*i) 0 (nth l i).tags.length,.ref (5+3*i) 0 (nth l i).whr.length])))∧
  (∀i,i<j→H[4+3*i]?=some (.arr 1 false 0 (ints (nth l i).tags)))∧(∀i,i<j→H[5+3*i]?=some (.arr 2 false 0 (whs (nth l i).whr)))) l.length _ ?_ ?_ ?_
 · exact⟨_,rfl,rfl,rfl,rfl,rfl,rfl,fun i hi=>absurd hi (by omega),fun i hi=>absurd hi (by omega)⟩
 · rintro j st hj ⟨H,rfl,hlen,e0,e1,e2,e3,hA,hB⟩
   have g:(l.map World.e)[j]?=some (nth l j).e:=cI _ hj
   have c:=lL (nth l j) (h2 _ (af hj))
   have rs:(List.range (j+1)).map (fun i=>D.agg [.ref (4+3*i) 0 (nth l i).tags.length,.ref (5+3*i) 0 (nth l i).whr.length])=(List.range j).map (fun i=>D.agg [.ref (4+3*i) 0 (nth l i).tags.length,.ref (5+3*i) 0 (nth l i).whr.length])++[D.agg [.ref (4+3*j) 0 (nth l j).tags.length,.ref (5+3*j) 0 (nth l j).whr.length]]:=by
    rw[List.range_succ,List.map_append];rfl
   have el:((List.range j).map (fun i=>D.agg [.ref (4+3*i) 0 (nth l i).tags.length,.ref (5+3*i) 0 (nth l i).whr.length])).length=j:=by simp
   generalize (List.range j).map (fun i=>D.agg [.ref (4+3*i) 0 (nth l i).tags.length,.ref (5+3*i) 0 (nth l i).whr.length])=es at*
   have n1:4+3*j=H.length:=hlen.symm
   have n2:5+3*j=H.length+1:=by omega
   rw[n1,n2]at rs
   refine⟨⟨[.und,.bp 0 0,.bp 1 0,.bp 2 0,I (j+1)],(H.set 3 (.arr 2 false 0 (es++[D.agg [.ref H.length 0 (nth l j).tags.length,.ref (H.length+1) 0 (nth l j).whr.length]]))).set 2 (.box [.ref 3 0 (j+1)])++[.arr 1 false 0 (ints (nth l j).tags),.arr 2 false 0 (whs (nth l j).whr),.arr 2 false 0 [D.agg [.ref H.length 0 (nth l j).tags.length,.ref (H.length+1) 0 (nth l j).whr.length]]]⟩,?_,_,rfl,?_⟩
   · generalize hx:nth l j=x at*
     obtain⟨tags,whr⟩:=x
     simp only[ints,whs]at*
     clear rs hA hB
     simp(disch:=omega)only[go_sem,K.mC,↓reduceIte,reduceAdd,reduceSub,g,c,e0,e1,e2,e3,el,gn,dQ,en,yz,gO,xH,lM,Ms,Mt,bF,List.length_set,Nat.add_assoc,Nat.sub_zero]
   · have old_:∀(o o':Obj) (t:ah) (i:Nat),i<H.length→i≠2→i≠3→((H.set 3 o).set 2 o'++t)[i]?=H[i]?:=fun o o' t i h1 h2 h3=>by
      rw[aLg (by simp;exact h1),bF (fun e=>h2 e.symm),bF (fun e=>h3 e.symm)]
     have new_:∀(o o':Obj) (t:ah) (k:Nat),((H.set 3 o).set 2 o'++t)[H.length+k]?=t[k]?:=fun o o' t k=>by
      rw[aLh (by simp)];simp
     refine⟨by simp;omega,?_,?_,?_,?_,?_,?_⟩
     · rw[old_ _ _ _ 0 (by omega) (by omega) (by omega)];exact e0
     · rw[old_ _ _ _ 1 (by omega) (by omega) (by omega)];exact e1
     · rw[aLg (by simp;omega),eo (by simp;omega)]
     · rw[aLg (by simp;omega),bF (by omega),eo (by omega),rs]
     · intro i hi
       by_cases c:i<j
       · rw[old_ _ _ _ _ (by omega) (by omega) (by omega)];exact hA i c
       · have:i=j:=by omega
         subst this
         rw[n1,show H.length=H.length+0 from rfl,new_];rfl
     · intro i hi
       by_cases c:i<j
       · rw[old_ _ _ _ _ (by omega) (by omega) (by omega)];exact hB i c
       · have:i=j:=by omega
         subst this
         rw[n2,new_];rfl
 · rintro st ⟨H,rfl,hlen,e0,e1,e2,e3,hA,hB⟩
   refine⟨(.exit 0,⟨[.und,.bp 0 0,.bp 1 0,.bp 2 0,I l.length],H⟩),?_,by simp,H,rfl,e1,e2,e3,hA,hB⟩
   simp(disch:=omega)only[go_sem,K.mC,↓reduceIte,reduceAdd,reduceSub,e0]
theorem G7(b:Bel)(h:b.sz):aH 2 N.fg [.t b.e] []=some (.agg [.ref 0 0 b.aq.length],cpH 0 b.aq):=by
 refine av K.oy rfl ?_
 obtain⟨h1,h2⟩:=h
 obtain⟨q,hq,H,rfl,e1,e2,e3,hA,hB⟩:=J4 b.aq h1 h2 (.t b.e)
 have fin:=J3 (H.set 1 (.box [.ref 3 0 b.aq.length])) b.aq (by rw[bF (by omega)];exact e3) (fun i hi=>by rw[bF (by omega)];exact hA i hi) (fun i hi=>by rw[bF (by omega)];exact hB i hi)
 have hl:=jB e1
 obtain⟨l⟩:=b
 simp only at*
 simp(disch:=omega)only[go_sem,K.fg,↓reduceIte,hq,e1,e2,eo,fin,reduceAdd,reduceSub]
def EY(o:Obj):Prop:=∃(sz:Nat) (ts:List T),o= .arr sz false 0 (ts.map .t)
theorem zn{f:Nat→Option Nat}{o:Obj}(h:EY o):b7 f o=some o:=by
 obtain⟨sz,ts,rfl⟩:=h
 simp only[b7,uR,aLw]
theorem EZ{H:ah}{l:List Obj}(h:∀o∈l,EY o):(l.flatMap fun o=>o.ds.flatMap (fm H depth))=[]:=by
 rw[List.flatMap_eq_nil_iff]
 intro o ho
 obtain⟨sz,ts,rfl⟩:=h o ho
 simp only[Obj.ds,BX]
theorem IK{H:ah}{l:List Obj}(h:∀o∈l,EY o):bf (dg H) l=some l:=by
 have:∀(l:List Obj),(∀o∈l,EY o)→bf (dg H) l=some l:=by
  intro l
  induction l with
  | nil=>intro _;rfl
  | cons a r ih=>
    intro h
    obtain⟨sz,ts,rfl⟩:=h a List.mem_cons_self
    have key:bf (fun d=>(frz H depth d).map D.t) (ts.map .t)=some (ts.map .t):=tF H ts
    have ih:=ih fun o ho=>h o (List.mem_cons_of_mem _ ho)
    simp only[bf,dg,key,aLw,aLq,ih]
 exact this l h
theorem J5{H:ah}{d d':D}{L0 L1:List Nat}{O0 O1 O0':List Obj}(hi:ids depth d=L0)(ho:old 0 depth d=false)(hp0:pick H L0=some O0)(hi1:jA H L0=L1)
 (nd:(L0++L1).Nodup) (hp1:pick H L1=some O1) (lf:∀o∈O1,EY o) (rd:ren (idxOf (L0++L1)) depth d=some d') (r0:bf (b7 (idxOf (L0++L1))) O0=some O0'):
 finish 0 2 H [d]=some (d',O0'++O1):=by
 have hold:([d].all (old 0 depth)&&(H.take 0).all (fun o=>o.ds.all (old 0 depth)))=false:=by simp[ho]
 have nd0:L0.Nodup:=(List.nodup_append.1 nd).1
 have r1:bf (b7 (idxOf (L0++L1))) O1=some O1:=uX fun o ho=>zn (lf o ho)
 have hk:gB H (max 2 1) (List.range 0) ([d].flatMap (ids depth)++jA H (List.range 0))=some (L0++L1,O0++O1):=by
  have e1:[d].flatMap (ids depth)++jA H (List.range 0)=L0:=by simp[jA,hi]
  have hnew:(eV [] L0).drop 0=L0:=by
   have:=jS L0 [] (by simpa using nd0)
   rw[this];simp
  have hm:max 2 1=1+1:=rfl
  rw[e1,hm]
  simp only[List.range_zero]
  unfold gB
  simp only[List.length_nil,hnew,hp0,aLq,aLw,Nat.one_ne_zero,if_false]
  unfold gB
  simp only[List.nil_append,hi1,jS _ _ nd,List.drop_left',hp1,aLq,if_true,EZ lf,List.all_nil,IK lf,gB,aLw,List.append_nil]
 unfold finish
 rw[if_neg (by omega),aLq,hold,if_neg (by simp),hk]
 simp only[aLq,List.range_zero,List.nil_append,List.take_zero,ie,Nat.succ_ne_zero,if_false,List.all_nil,if_true,bf,rd,oU r0 r1,aLw,rS]
theorem J6{H:ah}{d d':D}{L0 L1 L2:List Nat}{O0 O1 O2 O0' O1':List Obj}(hi:ids depth d=L0)(ho:old 0 depth d=false)(hp0:pick H L0=some O0)(hi1:jA H L0=L1)
 (hp1:pick H L1=some O1) (hi2:jA H L1=L2) (nd:((L0++L1)++L2).Nodup) (hp2:pick H L2=some O2) (lf:∀o∈O2,EY o) (rd:ren (idxOf ((L0++L1)++L2)) depth d=some d')
 (r0:bf (b7 (idxOf ((L0++L1)++L2))) O0=some O0') (r1:bf (b7 (idxOf ((L0++L1)++L2))) O1=some O1'):
 finish 0 3 H [d]=some (d',O0'++(O1'++O2)):=by
 have hold:([d].all (old 0 depth)&&(H.take 0).all (fun o=>o.ds.all (old 0 depth)))=false:=by simp[ho]
 have nd1:(L0++L1).Nodup:=(List.nodup_append.1 nd).1
 have nd0:L0.Nodup:=(List.nodup_append.1 nd1).1
 have r2:bf (b7 (idxOf ((L0++L1)++L2))) O2=some O2:=uX fun o ho=>zn (lf o ho)
 have hk:gB H (max 3 1) (List.range 0) ([d].flatMap (ids depth)++jA H (List.range 0))=some (L0++(L1++L2),O0++(O1++O2)):=by
  have e1:[d].flatMap (ids depth)++jA H (List.range 0)=L0:=by simp[jA,hi]
  have hnew:(eV [] L0).drop 0=L0:=by
   have:=jS L0 [] (by simpa using nd0)
   rw[this];simp
  have hm:max 3 1=1+1+1:=rfl
  rw[e1,hm]
  simp only[List.range_zero]
  unfold gB
  simp only[List.length_nil,hnew,hp0,aLq,aLw,Nat.succ_ne_zero,if_false]
  unfold gB
  simp only[List.nil_append,hi1,jS _ _ nd1,List.drop_left',hp1,aLq,aLw,Nat.succ_ne_zero,if_false]
  unfold gB
  simp only[hi2,jS _ _ nd,List.drop_left',hp2,aLq,if_true,EZ lf,List.all_nil,IK lf,gB,aLw,List.append_nil]
 rw[List.append_assoc]at rd r0 r1 r2
 unfold finish
 rw[if_neg (by omega),aLq,hold,if_neg (by simp),hk]
 simp only[aLq,List.range_zero,List.nil_append,List.take_zero,ie,Nat.succ_ne_zero,if_false,List.all_nil,if_true,bf,rd,oU r0 (oU r1 r2),aLw,rS]
theorem J7(w:Wh)(hl:w.frm.length≤4294967296):aH 1 N.b9 [.t w.e] []=some (.agg [I w.time,.ref 0 0 w.frm.length],[.arr 1 false 0 (ints w.frm)]):=by
 refine av K.oT rfl ?_
 obtain⟨time,frm⟩:=w
 simp only[ints]at*
 simp(disch:=omega)only[go_sem,K.b9,↓reduceIte,reduceAdd,reduceSub]
def wEl(f:Nat→Nat)(l:List Wh)(j:Nat):D:= .agg [I (nth l j).time,.ref (f j) 0 (nth l j).frm.length]
def wOb(w:Wh):Obj:= .arr 1 false 0 (ints w.frm)
def cwH(s:Nat)(x:World):ah:= .arr 1 false 0 (ints x.tags):: .arr 2 false 0 ((List.range x.whr.length).map (wEl (fun j=>s+2+j) x.whr))::x.whr.map wOb
theorem C2(l:List Wh):∀o∈l.map wOb,EY o:=by
 intro o ho
 obtain⟨w,_,rfl⟩:=List.mem_map.1 ho
 exact⟨_,_,rfl⟩
theorem G8{f:Nat→Option Nat}{g h:Nat→Nat}{l:List Wh}(hf:∀j,j<l.length→f (g j)=some (h j)):bf (ren f depth) ((List.range l.length).map (wEl g l))=some ((List.range l.length).map (wEl h l)):=
 j7 fun j hj=>by
  have:=hf j (aLu.1 hj)
  simp only[wEl,depth,ren,bf,this,aLw,aLq]
theorem Mu(g:Nat→Nat)(l:List Wh):((List.range l.length).map (wEl g l)).flatMap (ids depth)=(List.range l.length).map g:=by
 rw[List.flatMap_map,List.map_eq_flatMap]
 congr 1
theorem aax(s:Nat)(x:World):bf (b7 (bO [] s)) (cwH 0 x)=some (cwH s x):=by
 have h1:=G8 (f:=bO [] s) (g:=fun j=>0+2+j) (h:=fun j=>s+2+j) (l:=x.whr) (fun j _=>by simp[bO];omega)
 have h2:bf (b7 (bO [] s)) (x.whr.map wOb)=some (x.whr.map wOb):=uX fun o ho=>zn (C2 _ o ho)
 unfold cwH
 simp only[bf,b7,ints,uR,h1,h2,aLw,aLq]
theorem PD(H:ah)(x:World)(n k:Nat):pW H (.agg [.ref 0 0 n,.ref 1 0 k],cwH 0 x)=some (.agg [.ref H.length 0 n,.ref (H.length+1) 0 k],H++cwH H.length x):=by
 have e:pW H (.agg [.ref 0 0 n,.ref 1 0 k],cwH 0 x)=(ren (bO [] H.length) depth (.agg [.ref 0 0 n,.ref 1 0 k])).bind fun r'=>(bf (b7 (bO [] H.length)) (cwH 0 x)).map fun os=>(r',H++os):=by
  unfold pW
  rw[if_neg (by simp[cwH])]
 rw[e,aax]
 simp[ren,depth,bf,bO]
theorem aay(s:Nat)(x:World):(cwH s x).length=2+x.whr.length:=by simp[cwH];omega
theorem PE(x:World)(h:x.sz)(a:D):∃q,exS aH K.mX ⟨[a,.bp 0 0,.bp 1 0,.bp 3 0,I 0],[.box [.t (tL x.tags),.t (.sl (x.whr.map Wh.e))],.box [.nil,.nil],.arr 1 false 0 (ints x.tags),.box [.ref 2 0 x.tags.length,.ref 5 0 0],.arr 2 false 0 [],.arr 2 false 0 []]⟩=some q∧
 ∃H,q=(.exit 0,⟨[.und,.bp 0 0,.bp 1 0,.bp 3 0,I x.whr.length],H⟩)∧H[1]?=some (.box [.nil,.nil])∧H[2]?=some (.arr 1 false 0 (ints x.tags))∧H[3]?=some (.box [.ref 2 0 x.tags.length,.ref 5 0 x.whr.length])∧
  H[5]?=some (.arr 2 false 0 ((List.range x.whr.length).map (wEl (fun j=>6+2*j) x.whr)))∧(∀i,i<x.whr.length→H[6+2*i]?=some (wOb (nth x.whr i))):=by
 obtain⟨tags,l⟩:=x
 obtain⟨h1,h2,h3⟩:=h
 simp only at h1 h2 h3 ⊢
 refine zm (fun j st=>∃H,st=⟨[.und,.bp 0 0,.bp 1 0,.bp 3 0,I j],H⟩∧H.length=6+2*j∧H[0]?=some (.box [.t (tL tags),.t (.sl (l.map Wh.e))])∧H[1]?=some (.box [.nil,.nil])∧H[2]?=some (.arr 1 false 0 (ints tags))∧H[3]?=some (.box [.ref 2 0 tags.length,.ref 5 0 j])∧
  H[5]?=some (.arr 2 false 0 ((List.range j).map (wEl (fun j=>6+2*j) l)))∧(∀i,i<j→H[6+2*i]?=some (wOb (nth l i)))) l.length _ ?_ ?_ ?_
 · exact⟨_,rfl,rfl,rfl,rfl,rfl,rfl,rfl,fun i hi=>absurd hi (by omega)⟩
 · rintro j st hj ⟨H,rfl,hlen,e0,e1,e2,e3,e5,hA⟩
   have c:=J7 (nth l j) (by have:=h3 _ (af hj);omega)
   have rs:(List.range (j+1)).map (wEl (fun j=>6+2*j) l)=(List.range j).map (wEl (fun j=>6+2*j) l)++[.agg [I (nth l j).time,.ref H.length 0 (nth l j).frm.length]]:=by
    rw[List.range_succ,List.map_append,hlen];rfl
   have el:((List.range j).map (wEl (fun j=>6+2*j) l)).length=j:=by simp
   generalize (List.range j).map (wEl (fun j=>6+2*j) l)=es at*
   refine⟨⟨[.und,.bp 0 0,.bp 1 0,.bp 3 0,I (j+1)],(H.set 5 (.arr 2 false 0 (es++[.agg [I (nth l j).time,.ref H.length 0 (nth l j).frm.length]]))).set 3 (.box [.ref 2 0 tags.length,.ref 5 0 (j+1)])++[.arr 1 false 0 (ints (nth l j).frm),.arr 2 false 0 [.agg [I (nth l j).time,.ref H.length 0 (nth l j).frm.length]]]⟩,?_,_,rfl,?_⟩
   · generalize hx:nth l j=w at*
     obtain⟨time,frm⟩:=w
     simp only[ints]at*
     clear rs hA
     simp(disch:=omega)only[go_sem,K.jj,↓reduceIte,hx,c,e0,e1,e2,e3,e5,el,gn,dQ,en,yz,gO,xH,lM,Ms,Mt,bF,List.length_set,Nat.add_assoc,Nat.sub_zero,reduceAdd,reduceSub]
   · have old_:∀(o o':Obj) (t:ah) (i:Nat),i<H.length→i≠3→i≠5→((H.set 5 o).set 3 o'++t)[i]?=H[i]?:=fun o o' t i h1 h2 h3=>by
      rw[aLg (by simp;exact h1),bF (fun e=>h2 e.symm),bF (fun e=>h3 e.symm)]
     have new_:∀(o o':Obj) (t:ah) (k:Nat),((H.set 5 o).set 3 o'++t)[H.length+k]?=t[k]?:=fun o o' t k=>by
      rw[aLh (by simp)];simp
     refine⟨by simp;omega,?_,?_,?_,?_,?_,?_⟩
     · rw[old_ _ _ _ 0 (by omega) (by omega) (by omega)];exact e0
     · rw[old_ _ _ _ 1 (by omega) (by omega) (by omega)];exact e1
     · rw[old_ _ _ _ 2 (by omega) (by omega) (by omega)];exact e2
     · rw[aLg (by simp;omega),eo (by simp;omega)]
     · rw[aLg (by simp;omega),bF (by omega),eo (by omega),rs]
     · intro i hi
       by_cases c:i<j
       · rw[old_ _ _ _ _ (by omega) (by omega) (by omega)];exact hA i c
       · have:i=j:=by omega
         subst this
         rw[show 6+2*i=H.length+0 by omega,new_];rfl
 · rintro st ⟨H,rfl,hlen,e0,e1,e2,e3,e5,hA⟩
   refine⟨(.exit 0,⟨[.und,.bp 0 0,.bp 1 0,.bp 3 0,I l.length],H⟩),?_,by simp,H,rfl,e1,e2,e3,e5,hA⟩
   simp(disch:=omega)only[go_sem,K.jj,↓reduceIte,e0,reduceAdd,reduceSub]
theorem Mv{H:ah}{x:World}(h2:H[2]?=some (.arr 1 false 0 (ints x.tags)))(h5:H[5]?=some (.arr 2 false 0 ((List.range x.whr.length).map (wEl (fun j=>6+2*j) x.whr))))(hA:∀i,i<x.whr.length→H[6+2*i]?=some (wOb (nth x.whr i))):
 finish 0 2 H [.agg [.ref 2 0 x.tags.length,.ref 5 0 x.whr.length]]=some (.agg [.ref 0 0 x.tags.length,.ref 1 0 x.whr.length],cwH 0 x):=by
 have nd:([2,5]++(List.range x.whr.length).map (fun j=>6+2*j)).Nodup:=by
  have h:([2,5]++(List.range x.whr.length).map (fun j=>6+2*j)).Pairwise (· < ·):=by
   rw[List.pairwise_append]
   refine⟨by simp,?_,?_⟩
   · rw[List.pairwise_map]
     exact List.Pairwise.imp (fun{a b} hab=>by have:a<b:=hab;omega) List.pairwise_lt_range
   · intro a ha b hb
     obtain⟨j,_,rfl⟩:=List.mem_map.1 hb
     simp only[List.mem_cons,List.not_mem_nil,or_false]at ha
     omega
  exact h.imp fun hab=>Nat.ne_of_lt hab
 have ix:∀j,j<x.whr.length→idxOf ([2,5]++(List.range x.whr.length).map (fun j=>6+2*j)) (6+2*j)=some (0+2+j):=fun j hj=>
  iL _ _ _ nd (by
   rw[show 0+2+j=j+2 by omega]
   simp only[List.cons_append,List.nil_append,List.getElem?_cons_succ,aLn,aLp hj,aLw])
 refine J5 (L0:=[2,5]) (L1:=(List.range x.whr.length).map (fun j=>6+2*j)) (O0:=[.arr 1 false 0 (ints x.tags),.arr 2 false 0 ((List.range x.whr.length).map (wEl (fun j=>6+2*j) x.whr))]) (O1:=x.whr.map wOb)
  (O0':=[.arr 1 false 0 (ints x.tags),.arr 2 false 0 ((List.range x.whr.length).map (wEl (fun j=>0+2+j) x.whr))]) rfl rfl ?_ ?_ nd ?_ (C2 _) ?_ ?_
 · simp only[pick,h2,h5,aLq,aLw]
 · have e1:(ints x.tags).flatMap (ids depth)=[]:=by
    rw[List.flatMap_eq_nil_iff]
    intro d hd
    unfold ints at hd
    obtain⟨t,_,rfl⟩:=List.mem_map.1 hd
    rfl
   simp only[jA,List.flatMap_cons,List.flatMap_nil,h2,h5,Obj.ds,e1,Mu,List.nil_append,List.append_nil]
 · refine qa (by simp) fun k i o hk ho=>?_
   have hl:k<x.whr.length:=by
    have:=(aLe.1 ho).1
    simpa using this
   rw[aLn,aLp hl]at hk
   rw[aLn,ff hl]at ho
   simp only[aLw,Option.some.injEq]at hk ho
   subst hk;subst ho
   exact hA k hl
 · have i0:idxOf ([2,5]++(List.range x.whr.length).map (fun j=>6+2*j)) 2=some 0:=rfl
   have i1:idxOf ([2,5]++(List.range x.whr.length).map (fun j=>6+2*j)) 5=some 1:=rfl
   simp only[ren,depth,bf,i0,i1,aLw,aLq]
 · have:=G8 (f:=idxOf ([2,5]++(List.range x.whr.length).map (fun j=>6+2*j))) (g:=fun j=>6+2*j) (h:=fun j=>0+2+j) (l:=x.whr) ix
   simp only[bf,b7,ints,uR,this,aLw,aLq]
theorem C3(x:World)(h:x.sz):aH 2 N.cq [.t x.e] []=some (.agg [.ref 0 0 x.tags.length,.ref 1 0 x.whr.length],cwH 0 x):=by
 refine av K.j6 rfl ?_
 obtain⟨q,hq,H,rfl,e1,e2,e3,e5,hA⟩:=PE x h (.t x.e)
 have fin:=Mv (H:=H.set 1 (.box [.ref 2 0 x.tags.length,.ref 5 0 x.whr.length])) (x:=x) (by rw[bF (by omega)];exact e2) (by rw[bF (by omega)];exact e5) (fun i hi=>by rw[bF (by omega)];exact hA i hi)
 have hl:=jB e1
 obtain⟨tags,l⟩:=x
 obtain⟨h1,h2,h3⟩:=h
 simp only[ints]at*
 simp(disch:=omega)only[go_sem,K.cq,↓reduceIte,hq,e1,e2,e3,eo,fin,reduceAdd,reduceSub]
def kV(b:Nat)(ws:List World):Nat→Nat
 | 0=>b
 | i+1=>kV b ws i+3+(nth ws i).whr.length
theorem xI(b:Nat)(ws:List World){i j:Nat}(h:i<j):kV b ws i+3+(nth ws i).whr.length≤kV b ws j:=by
 induction j with
 | zero=>omega
 | succ j ih=>
   rw[kV]
   by_cases c:i=j
   · subst c;omega
   · have:=ih (by omega);omega
theorem xJ(b:Nat)(ws:List World):∀i,b≤kV b ws i
 | 0=>aLs _
 | i+1=>by have:=xJ b ws i;rw[kV];omega
def B4(f:Nat→Nat×Nat)(ws:List World)(i:Nat):D:= .agg [.ref (f i).1 0 (nth ws i).tags.length,.ref (f i).2 0 (nth ws i).whr.length]
theorem aaz(s:Nat)(x:World){k:Nat}(hk:k<x.whr.length):(cwH s x)[2+k]?=some (wOb (nth x.whr k)):=by
 unfold cwH
 rw[show 2+k=k+2 by omega,List.getElem?_cons_succ,List.getElem?_cons_succ,aLn,ff hk];rfl
theorem PF(l:List World)(h1:l.length≤1000000)(h2:∀x∈l,x.sz)(a:D):∃q,exS aH K.rP ⟨[a,.bp 0 0,.bp 1 0,.bp 2 0,I 0],[.box [.t (tX l)],.box [.nil],.box [.ref 3 0 0],.arr 2 false 0 []]⟩=some q∧
 ∃H,q=(.exit 0,⟨[.und,.bp 0 0,.bp 1 0,.bp 2 0,I l.length],H⟩)∧H[1]?=some (.box [.nil])∧H[2]?=some (.box [.ref 3 0 l.length])∧
  H[3]?=some (.arr 2 false 0 ((List.range l.length).map (B4 (fun i=>(kV 4 l i,kV 4 l i+1)) l)))∧
  (∀i,i<l.length→∀k,k<2+(nth l i).whr.length→H[kV 4 l i+k]?=(cwH (kV 4 l i) (nth l i))[k]?):=by
 refine zm (fun j st=>∃H,st=⟨[.und,.bp 0 0,.bp 1 0,.bp 2 0,I j],H⟩∧H.length=kV 4 l j∧H[0]?=some (.box [.t (tX l)])∧H[1]?=some (.box [.nil])∧H[2]?=some (.box [.ref 3 0 j])∧
  H[3]?=some (.arr 2 false 0 ((List.range j).map (B4 (fun i=>(kV 4 l i,kV 4 l i+1)) l)))∧
  (∀i,i<j→∀k,k<2+(nth l i).whr.length→H[kV 4 l i+k]?=(cwH (kV 4 l i) (nth l i))[k]?)) l.length _ ?_ ?_ ?_
 · exact⟨_,rfl,rfl,rfl,rfl,rfl,rfl,fun i hi=>absurd hi (by omega)⟩
 · rintro j st hj ⟨H,rfl,hlen,e0,e1,e2,e3,hA⟩
   have g:(l.map World.e)[j]?=some (nth l j).e:=cI _ hj
   have c:=C3 (nth l j) (h2 _ (af hj))
   have rs:(List.range (j+1)).map (B4 (fun i=>(kV 4 l i,kV 4 l i+1)) l)=(List.range j).map (B4 (fun i=>(kV 4 l i,kV 4 l i+1)) l)++[.agg [.ref H.length 0 (nth l j).tags.length,.ref (H.length+1) 0 (nth l j).whr.length]]:=by
    rw[List.range_succ,List.map_append,hlen];rfl
   have el:((List.range j).map (B4 (fun i=>(kV 4 l i,kV 4 l i+1)) l)).length=j:=by simp
   generalize (List.range j).map (B4 (fun i=>(kV 4 l i,kV 4 l i+1)) l)=es at*
   have h4:=xJ 4 l j
   have bp:=PD H (nth l j) (nth l j).tags.length (nth l j).whr.length
   have cl:=aay H.length (nth l j)
   have k0:(H++cwH H.length (nth l j))[0]?=some (.box [.t (tX l)]):=by rw[aLg (by omega)];exact e0
   have k1:(H++cwH H.length (nth l j))[1]?=some (.box [.nil]):=by rw[aLg (by omega)];exact e1
   have k2:(H++cwH H.length (nth l j))[2]?=some (.box [.ref 3 0 j]):=by rw[aLg (by omega)];exact e2
   have k3:(H++cwH H.length (nth l j))[3]?=some (.arr 2 false 0 es):=by rw[aLg (by omega)];exact e3
   have kl:(H++cwH H.length (nth l j)).length=H.length+(2+(nth l j).whr.length):=by rw[aLv,cl]
   have kA:∀i,i<j+1→∀k,k<2+(nth l i).whr.length→(H++cwH H.length (nth l j))[kV 4 l i+k]?=(cwH (kV 4 l i) (nth l i))[k]?:=by
    intro i hi k hk
    by_cases ci:i<j
    · have:=xI 4 l ci
      rw[aLg (by omega)]
      exact hA i ci k hk
    · have:i=j:=by omega
      subst this
      rw[hlen,aLh (by omega),show kV 4 l i+k-H.length=k by omega]
   generalize hG:H++cwH H.length (nth l j)=G at*
   refine⟨⟨[.und,.bp 0 0,.bp 1 0,.bp 2 0,I (j+1)],(G.set 3 (.arr 2 false 0 (es++[.agg [.ref H.length 0 (nth l j).tags.length,.ref (H.length+1) 0 (nth l j).whr.length]]))).set 2 (.box [.ref 3 0 (j+1)])++[.arr 2 false 0 [.agg [.ref H.length 0 (nth l j).tags.length,.ref (H.length+1) 0 (nth l j).whr.length]]]⟩,?_,_,rfl,?_⟩
   · clear rs hA hG kA cl
     generalize nth l j=x at*
     obtain⟨tags,whr⟩:=x
     simp(disch:=omega)only[go_sem,K.mD,↓reduceIte,g,c,bp,e0,e1,e2,e3,k0,k1,k2,k3,el,gn,dQ,en,yz,gO,xH,lM,Ms,Mt,bF,List.length_set,Nat.add_assoc,Nat.sub_zero,reduceAdd,reduceSub]
   · have old_:∀(o o':Obj) (t:ah) (i:Nat),i<G.length→i≠2→i≠3→((G.set 3 o).set 2 o'++t)[i]?=G[i]?:=fun o o' t i h1 h2 h3=>by
      rw[aLg (by simp;exact h1),bF (fun e=>h2 e.symm),bF (fun e=>h3 e.symm)]
     refine⟨by simp[kl,kV];omega,?_,?_,?_,?_,?_⟩
     · rw[old_ _ _ _ 0 (by omega) (by omega) (by omega)];exact k0
     · rw[old_ _ _ _ 1 (by omega) (by omega) (by omega)];exact k1
     · rw[aLg (by simp;omega),eo (by simp;omega)]
     · rw[aLg (by simp;omega),bF (by omega),eo (by omega),rs]
     · intro i hi k hk
       have h4:=xJ 4 l i
       have lt:kV 4 l i+k<G.length:=by
        by_cases ci:i<j
        · have:=xI 4 l ci;omega
        · have:i=j:=by omega
          subst this;omega
       rw[old_ _ _ _ _ lt (by omega) (by omega)]
       exact kA i hi k hk
 · rintro st ⟨H,rfl,hlen,e0,e1,e2,e3,hA⟩
   refine⟨(.exit 0,⟨[.und,.bp 0 0,.bp 1 0,.bp 2 0,I l.length],H⟩),?_,by simp,H,rfl,e1,e2,e3,hA⟩
   simp(disch:=omega)only[go_sem,K.mD,↓reduceIte,e0,reduceAdd,reduceSub]
def fR(ws:List World):Nat→Nat
 | 0=>0
 | i+1=>fR ws i+(nth ws i).whr.length
theorem sR{α:Type}(ws:List World)(f:Nat→List α)(hf:∀i,(f i).length=(nth ws i).whr.length):∀n,((List.range n).flatMap f).length=fR ws n∧∀i,i<n→∀j,j<(nth ws i).whr.length→((List.range n).flatMap f)[fR ws i+j]?=(f i)[j]?
 | 0=>⟨rfl,fun i hi=>absurd hi (by omega)⟩
 | n+1=>by
   obtain⟨h1,h2⟩:=sR ws f hf n
   rw[List.range_succ,List.flatMap_append]
   simp only[List.flatMap_cons,List.flatMap_nil,List.append_nil]
   refine⟨by rw[aLv,h1,hf,fR],?_⟩
   intro i hi j hj
   by_cases c:i<n
   · have h3:=h2 i c j hj
     have:(f i)[j]?.isSome:=by rw[aLc (by rw[hf];exact hj)];rfl
     have lt:fR ws i+j<((List.range n).flatMap f).length:=by
      rcases Nat.lt_or_ge (fR ws i+j) ((List.range n).flatMap f).length with h | h
      · exact h
      · rw[aLm h]at h3;rw[← h3]at this;simp at this
     rw[aLg lt,h3]
   · have:i=n:=by omega
     subst this
     rw[aLh (by omega),h1,show fR ws i+j-fR ws i=j by omega]
def A2(s:Nat)(ws:List World)(k:Nat):Obj:=if k % 2=0 then .arr 1 false 0 (ints (nth ws (k / 2)).tags)else .arr 2 false 0 ((List.range (nth ws (k / 2)).whr.length).map (wEl (fun j=>s+1+2*ws.length+fR ws (k / 2)+j) (nth ws (k / 2)).whr))
def cbW(ws:List World):ah:=(List.range ws.length).flatMap fun i=>(nth ws i).whr.map wOb
def cbH(s:Nat)(ws:List World):ah:=[.arr 2 false 0 ((List.range ws.length).map (B4 (fun i=>(s+1+2*i,s+2+2*i)) ws))]++((List.range (2*ws.length)).map (A2 s ws)++cbW ws)
theorem IL(ws:List World):∀o∈cbW ws,EY o:=by
 intro o ho
 obtain⟨i,_,h⟩:=List.mem_flatMap.1 ho
 exact C2 _ o h
theorem IM{f:Nat→Option Nat}{g h:Nat→Nat×Nat}{ws:List World}(hf:∀j,j<ws.length→f (g j).1=some (h j).1∧f (g j).2=some (h j).2):bf (ren f depth) ((List.range ws.length).map (B4 g ws))=some ((List.range ws.length).map (B4 h ws)):=
 j7 fun j hj=>by
  have:=hf j (aLu.1 hj)
  simp only[B4,depth,ren,bf,this.1,this.2,aLw,aLq]
def aaA(ws:List World)(k:Nat):Obj:=if k % 2=0 then .arr 1 false 0 (ints (nth ws (k / 2)).tags)else .arr 2 false 0 ((List.range (nth ws (k / 2)).whr.length).map (wEl (fun j=>kV 4 ws (k / 2)+2+j) (nth ws (k / 2)).whr))
theorem RF{f:Nat→Option Nat}{g h:Nat→Nat→Nat}{ws:List World}(k:Nat)(hf:∀j,j<(nth ws (k / 2)).whr.length→f (g (k / 2) j)=some (h (k / 2) j)):
 b7 f (if k % 2=0 then .arr 1 false 0 (ints (nth ws (k / 2)).tags)else .arr 2 false 0 ((List.range (nth ws (k / 2)).whr.length).map (wEl (g (k / 2)) (nth ws (k / 2)).whr)))=
 some (if k % 2=0 then .arr 1 false 0 (ints (nth ws (k / 2)).tags)else .arr 2 false 0 ((List.range (nth ws (k / 2)).whr.length).map (wEl (h (k / 2)) (nth ws (k / 2)).whr))):=by
 split
 · simp only[b7,ints,uR,aLw]
 · have:=G8 (f:=f) (g:=g (k / 2)) (h:=h (k / 2)) (l:=(nth ws (k / 2)).whr) hf
   simp only[b7,this,aLw]
theorem aaB(s:Nat)(ws:List World):bf (b7 (bO [] s)) (cbH 0 ws)=some (cbH s ws):=by
 have h0:=IM (f:=bO [] s) (g:=fun i=>(0+1+2*i,0+2+2*i)) (h:=fun i=>(s+1+2*i,s+2+2*i)) (ws:=ws) (fun j _=>⟨by simp[bO];omega,by simp[bO];omega⟩)
 have h1:bf (b7 (bO [] s)) ((List.range (2*ws.length)).map (A2 0 ws))=some ((List.range (2*ws.length)).map (A2 s ws)):=j7 fun k _=>
  RF (f:=bO [] s) (g:=fun i j=>0+1+2*ws.length+fR ws i+j) (h:=fun i j=>s+1+2*ws.length+fR ws i+j) k (fun j _=>by simp[bO];omega)
 have h2:bf (b7 (bO [] s)) (cbW ws)=some (cbW ws):=uX fun o ho=>zn (IL ws o ho)
 refine oU ?_ (oU h1 h2)
 simp only[bf,b7,h0,aLw,aLq]
theorem PG(H:ah)(ws:List World)(n:Nat):pW H (.agg [.ref 0 0 n],cbH 0 ws)=some (.agg [.ref H.length 0 n],H++cbH H.length ws):=by
 have e:pW H (.agg [.ref 0 0 n],cbH 0 ws)=(ren (bO [] H.length) depth (.agg [.ref 0 0 n])).bind fun r'=>(bf (b7 (bO [] H.length)) (cbH 0 ws)).map fun os=>(r',H++os):=by
  unfold pW
  rw[if_neg (by simp[cbH])]
 rw[e,aaB]
 simp[ren,depth,bf,bO]
def Bb(ws:List World):List Nat:=(List.range (2*ws.length)).map fun k=>if k % 2=0 then kV 4 ws (k / 2)else kV 4 ws (k / 2)+1
def KV(ws:List World):List Nat:=(List.range ws.length).flatMap fun i=>(List.range (nth ws i).whr.length).map fun j=>kV 4 ws i+2+j
theorem IN{H:ah}:∀ {a b:List Nat} {x y:ah},pick H a=some x→pick H b=some y→pick H (a++b)=some (x++y)
 | [],b,x,y,hx,hy=>by cases hx;exact hy
 | i::a,b,x,y,hx,hy=>by
   simp only[pick]at hx
   cases ho:H[i]? with
   | none=>rw[ho]at hx;simp at hx
   | some o=>
     rw[ho,aLq]at hx
     cases hp:pick H a with
     | none=>rw[hp]at hx;simp at hx
     | some z=>
       rw[hp]at hx
       simp only[aLw,Option.some.injEq]at hx
       subst hx
       simp only[List.cons_append,pick,ho,aLq,IN hp hy,aLw]
theorem IP{ws:List World}{x:Nat}(h:x∈Bb ws):∃i c,i<ws.length∧c<2∧x=kV 4 ws i+c:=by
 obtain⟨k,hk,rfl⟩:=List.mem_map.1 h
 have hk:=aLu.1 hk
 refine⟨k / 2,k % 2,by omega,by omega,?_⟩
 split<;>omega
theorem PH{ws:List World}{x:Nat}(h:x∈KV ws):∃i j,i<ws.length∧j<(nth ws i).whr.length∧x=kV 4 ws i+2+j:=by
 obtain⟨i,hi,h⟩:=List.mem_flatMap.1 h
 obtain⟨j,hj,rfl⟩:=List.mem_map.1 h
 exact⟨i,j,aLu.1 hi,aLu.1 hj,rfl⟩
theorem zo(ws:List World):(([3]++Bb ws)++KV ws).Nodup:=by
 have n1:(Bb ws).Pairwise (· < ·):=by
  unfold Bb
  rw[List.pairwise_map]
  refine List.Pairwise.imp (fun{a b} hab=>?_) List.pairwise_lt_range
  have hab:a<b:=hab
  by_cases c:a / 2=b / 2
  · rw[c,if_pos (by omega),if_neg (by omega)];omega
  · have:=xI 4 ws (i:=a / 2) (j:=b / 2) (by omega)
    split<;>split<;>omega
 have n2:(KV ws).Pairwise (· < ·):=by
  unfold KV
  rw[List.pairwise_flatMap]
  constructor
  · intro i _
    rw[List.pairwise_map]
    exact List.Pairwise.imp (fun{a b} hab=>by have:a<b:=hab;omega) List.pairwise_lt_range
  · refine List.Pairwise.imp (fun{a b} hab=>?_) List.pairwise_lt_range
    intro x hx y hy
    obtain⟨i,hi,rfl⟩:=List.mem_map.1 hx
    obtain⟨j,hj,rfl⟩:=List.mem_map.1 hy
    have:=xI 4 ws (i:=a) (j:=b) hab
    have:=aLu.1 hi
    omega
 rw[List.nodup_append]
 refine⟨?_,n2.imp fun h=>Nat.ne_of_lt h,?_⟩
 · rw[List.singleton_append,List.nodup_cons]
   refine⟨fun h=>?_,n1.imp fun h=>Nat.ne_of_lt h⟩
   obtain⟨i,c,_,_,e⟩:=IP h
   have:=xJ 4 ws i
   omega
 · intro a ha b hb e
   subst e
   obtain⟨i,j,hi,hj,e⟩:=PH hb
   have h4:=xJ 4 ws i
   rw[List.singleton_append,List.mem_cons]at ha
   rcases ha with rfl | ha
   · omega
   · obtain⟨p,c,hp,hc,e2⟩:=IP ha
     rcases Nat.lt_trichotomy i p with h | h | h
     · have:=xI 4 ws h;omega
     · subst h;omega
     · have:=xI 4 ws h;omega
theorem aaC(ws:List World){i:Nat}(hi:i<ws.length):idxOf (([3]++Bb ws)++KV ws) (kV 4 ws i)=some (0+1+2*i)∧idxOf (([3]++Bb ws)++KV ws) (kV 4 ws i+1)=some (0+2+2*i):=by
 have l1:(Bb ws).length=2*ws.length:=by simp[Bb]
 constructor
 · refine iL _ _ _ (zo ws) ?_
   rw[aLg (by simp[l1];omega),show 0+1+2*i=2*i+1 by omega,List.singleton_append,List.getElem?_cons_succ]
   unfold Bb
   rw[aLn,aLp (by omega)]
   simp only[aLw]
   rw[if_pos (by omega),show 2*i / 2=i by omega]
 · refine iL _ _ _ (zo ws) ?_
   rw[aLg (by simp[l1];omega),show 0+2+2*i=(2*i+1)+1 by omega,List.singleton_append,List.getElem?_cons_succ]
   unfold Bb
   rw[aLn,aLp (by omega)]
   simp only[aLw]
   rw[if_neg (by omega),show(2*i+1) / 2=i by omega]
theorem aaD(ws:List World){i j:Nat}(hi:i<ws.length)(hj:j<(nth ws i).whr.length):idxOf (([3]++Bb ws)++KV ws) (kV 4 ws i+2+j)=some (0+1+2*ws.length+fR ws i+j):=by
 have l1:(Bb ws).length=2*ws.length:=by simp[Bb]
 refine iL _ _ _ (zo ws) ?_
 rw[aLh (by simp[l1];omega)]
 have e:0+1+2*ws.length+fR ws i+j-([3]++Bb ws).length=fR ws i+j:=by simp[l1];omega
 rw[e]
 have:=(sR ws (fun i=>(List.range (nth ws i).whr.length).map fun j=>kV 4 ws i+2+j) (fun i=>by simp) ws.length).2 i hi j hj
 unfold KV
 rw[this,aLn,aLp hj];rfl
theorem Mw{H:ah}{ws:List World}(h3:H[3]?=some (.arr 2 false 0 ((List.range ws.length).map (B4 (fun i=>(kV 4 ws i,kV 4 ws i+1)) ws))))
 (hA:∀i,i<ws.length→∀k,k<2+(nth ws i).whr.length→H[kV 4 ws i+k]?=(cwH (kV 4 ws i) (nth ws i))[k]?):
 finish 0 3 H [.agg [.ref 3 0 ws.length]]=some (.agg [.ref 0 0 ws.length],cbH 0 ws):=by
 have g0:∀i,i<ws.length→H[kV 4 ws i]?=some (.arr 1 false 0 (ints (nth ws i).tags)):=fun i hi=>by have:=hA i hi 0 (by omega);exact this
 have g1:∀i,i<ws.length→H[kV 4 ws i+1]?=some (.arr 2 false 0 ((List.range (nth ws i).whr.length).map (wEl (fun j=>kV 4 ws i+2+j) (nth ws i).whr))):=fun i hi=>by have:=hA i hi 1 (by omega);exact this
 have g2:∀i,i<ws.length→∀j,j<(nth ws i).whr.length→H[kV 4 ws i+2+j]?=some (wOb (nth (nth ws i).whr j)):=fun i hi j hj=>by
  have:=hA i hi (2+j) (by omega)
  rw[aaz _ _ hj]at this
  rw[← this];congr 1;omega
 have e1:∀l:List Int,(ints l).flatMap (ids depth)=[]:=by
  intro l
  rw[List.flatMap_eq_nil_iff]
  intro d hd
  unfold ints at hd
  obtain⟨t,_,rfl⟩:=List.mem_map.1 hd
  rfl
 have i3:idxOf (([3]++Bb ws)++KV ws) 3=some 0:=rfl
 refine J6 (L0:=[3]) (L1:=Bb ws) (L2:=KV ws) (O0:=[.arr 2 false 0 ((List.range ws.length).map (B4 (fun i=>(kV 4 ws i,kV 4 ws i+1)) ws))]) (O1:=(List.range (2*ws.length)).map (aaA ws)) (O2:=cbW ws)
  (O0':=[.arr 2 false 0 ((List.range ws.length).map (B4 (fun i=>(0+1+2*i,0+2+2*i)) ws))]) (O1':=(List.range (2*ws.length)).map (A2 0 ws)) rfl rfl ?_ ?_ ?_ ?_ (zo ws) ?_ (IL ws) ?_ ?_ ?_
 · simp only[pick,h3,aLq,aLw]
 · simp only[jA,List.flatMap_cons,List.flatMap_nil,h3,Obj.ds,List.append_nil,List.flatMap_map]
   unfold Bb
   have:=sQ (fun i=>kV 4 ws i) (fun i=>kV 4 ws i+1) ws.length
   exact this
 · refine qa (by simp[Bb]) fun k i o hk ho=>?_
   have hl:k<2*ws.length:=by
    have:=(aLe.1 ho).1
    simpa using this
   unfold Bb at hk
   rw[aLn,aLp hl]at hk ho
   simp only[aLw,Option.some.injEq]at hk ho
   subst hk;subst ho
   unfold aaA
   split
   · exact g0 _ (by omega)
   · exact g1 _ (by omega)
 · have key:∀n,n≤ws.length→((List.range (2*n)).map fun k=>if k % 2=0 then kV 4 ws (k / 2)else kV 4 ws (k / 2)+1).flatMap (fun i=>match H[i]? with | some o=>o.ds.flatMap (ids depth) | none=>[])=(List.range n).flatMap fun i=>(List.range (nth ws i).whr.length).map fun j=>kV 4 ws i+2+j:=by
    intro n
    induction n with
    | zero=>intro _;rfl
    | succ n ih=>
      intro hn
      have pm:=sQ (fun i=>kV 4 ws i) (fun i=>kV 4 ws i+1) (n+1)
      have pm0:=sQ (fun i=>kV 4 ws i) (fun i=>kV 4 ws i+1) n
      have ih:=ih (by omega)
      rw[← pm0]at ih
      rw[← pm,List.range_succ,List.flatMap_append,List.flatMap_append,ih,List.flatMap_append]
      congr 1
      simp only[List.flatMap_cons,List.flatMap_nil,List.append_nil,List.cons_append,List.nil_append,g0 n (by omega),g1 n (by omega),Obj.ds,e1,Mu]
   exact key ws.length (aLs _)
 · have f1:=sR ws (fun i=>(List.range (nth ws i).whr.length).map fun j=>kV 4 ws i+2+j) (fun i=>by simp) ws.length
   have f2:=sR ws (fun i=>(nth ws i).whr.map wOb) (fun i=>by simp) ws.length
   have key:∀n,n≤ws.length→pick H ((List.range n).flatMap fun i=>(List.range (nth ws i).whr.length).map fun j=>kV 4 ws i+2+j)=some ((List.range n).flatMap fun i=>(nth ws i).whr.map wOb):=by
    intro n
    induction n with
    | zero=>intro _;rfl
    | succ n ih=>
      intro hn
      have ih:=ih (by omega)
      rw[List.range_succ,List.flatMap_append,List.flatMap_append]
      refine IN ih ?_
      simp only[List.flatMap_cons,List.flatMap_nil,List.append_nil]
      refine qa (by simp) fun k i o hk ho=>?_
      have hl:k<(nth ws n).whr.length:=by
       have:=(aLe.1 ho).1
       simpa using this
      rw[aLn,aLp hl]at hk
      rw[aLn,ff hl]at ho
      simp only[aLw,Option.some.injEq]at hk ho
      subst hk;subst ho
      exact g2 n (by omega) k hl
   exact key ws.length (aLs _)
 · simp only[ren,depth,bf,i3,aLw,aLq]
 · have:=IM (f:=idxOf (([3]++Bb ws)++KV ws)) (g:=fun i=>(kV 4 ws i,kV 4 ws i+1)) (h:=fun i=>(0+1+2*i,0+2+2*i)) (ws:=ws) (fun j hj=>aaC ws hj)
   simp only[bf,b7,this,aLw,aLq]
 · exact j7 fun k hk=>by
    have hk:=aLu.1 hk
    exact RF (f:=idxOf (([3]++Bb ws)++KV ws)) (g:=fun i j=>kV 4 ws i+2+j) (h:=fun i j=>0+1+2*ws.length+fR ws i+j) k (fun j hj=>aaD ws (by omega) hj)
theorem G9(b:Bel)(h:b.sz):aH 3 N.fh [.t b.e] []=some (.agg [.ref 0 0 b.aq.length],cbH 0 b.aq):=by
 refine av K.oz rfl ?_
 obtain⟨h1,h2⟩:=h
 obtain⟨q,hq,H,rfl,e1,e2,e3,hA⟩:=PF b.aq h1 h2 (.t b.e)
 have fin:=Mw (H:=H.set 1 (.box [.ref 3 0 b.aq.length])) (ws:=b.aq) (by rw[bF (by omega)];exact e3) (fun i hi k hk=>by have:=xJ 4 b.aq i;rw[bF (by omega)];exact hA i hi k hk)
 have hl:=jB e1
 obtain⟨l⟩:=b
 simp only at*
 simp(disch:=omega)only[go_sem,K.fh,↓reduceIte,hq,e1,e2,eo,fin,reduceAdd,reduceSub]
theorem nU{α:Type} [Dat α]{l:List α}{i j:Nat}{a:α}(h:j≠i):nth (l.set j a) i=nth l i:=by
 unfold nth
 simp only[aLl,aLi h]
theorem lN{α:Type} [Dat α]{l:List α}{i:Nat}{a:α}(h:i<l.length):nth (l.set i a) i=a:=bP (aLj h)
theorem zp{α β:Type} [Dat α](f:α→β)(l:List α):(List.range l.length).map (fun i=>f (nth l i))=l.map f:=by
 apply List.ext_getElem?
 intro i
 rw[aLn,aLn]
 by_cases h:i<l.length
 · rw[aLp h,ff h];rfl
 · rw[aLm (by simpa using h),aLm (by simpa using h)];rfl
theorem Hc(P T:ah)(s:Nat)(ws:List World):(P++(cbH s ws++T))[P.length]?=some (.arr 2 false 0 ((List.range ws.length).map (B4 (fun i=>(s+1+2*i,s+2+2*i)) ws))):=by
 rw[aLh (aLs _),Nat.sub_self];rfl
theorem C4(P T:ah)(s:Nat)(ws:List World){k:Nat}(hk:k<2*ws.length):(P++(cbH s ws++T))[P.length+1+k]?=some (A2 s ws k):=by
 rw[aLh (by omega),show P.length+1+k-P.length=k+1 by omega]
 unfold cbH
 rw[List.append_assoc,List.singleton_append,List.getElem?_cons_succ,List.append_assoc,aLg (by simpa using hk),aLn,aLp hk];rfl
theorem C5(P T:ah)(s:Nat)(ws:List World){i j:Nat}(hi:i<ws.length)(hj:j<(nth ws i).whr.length):(P++(cbH s ws++T))[P.length+1+2*ws.length+fR ws i+j]?=some (wOb (nth (nth ws i).whr j)):=by
 obtain⟨f1,f2⟩:=sR ws (fun i=>(nth ws i).whr.map wOb) (fun i=>by simp) ws.length
 have f3:=f2 i hi j hj
 have lt:fR ws i+j<(cbW ws).length:=by
  rcases Nat.lt_or_ge (fR ws i+j) (cbW ws).length with h | h
  · exact h
  · unfold cbW at h
    rw[aLm h,aLc (by simpa using hj)]at f3
    exact absurd f3 (by simp)
 rw[aLh (by omega),show P.length+1+2*ws.length+fR ws i+j-P.length=(2*ws.length+(fR ws i+j))+1 by omega]
 unfold cbH
 rw[List.append_assoc,List.singleton_append,List.getElem?_cons_succ,List.append_assoc,aLh (by simp),aLg (by simpa using lt)]
 have e:2*ws.length+(fR ws i+j)-(List.map (A2 s ws) (List.range (2*ws.length))).length=fR ws i+j:=by simp
 rw[e]
 unfold cbW
 rw[f3,aLn,ff hj];rfl
theorem IQ(H:ah)(n:Nat)(l:List Int):bf (frz H n) (ints l)=some (l.map (T.int .i64)):=by
 have:ints l=l.map (fun x=>D.t (.int .i64 x)):=by simp[ints]
 rw[this]
 exact j7 fun x _=>by cases n<;>rfl
def cbE(s:Nat)(ws:List World):List D:=(List.range ws.length).map (B4 (fun i=>(s+1+2*i,s+2+2*i)) ws)
theorem nB(s:Nat)(ws:List World):(cbE s ws).length=ws.length:=by simp[cbE]
theorem rn(s:Nat)(ws:List World){i:Nat}(hi:i<ws.length):(cbE s ws)[i]?=some (.agg [.ref (s+1+2*i) 0 (nth ws i).tags.length,.ref (s+2+2*i) 0 (nth ws i).whr.length]):=by
 unfold cbE
 rw[aLn,aLp hi];rfl
theorem Hd{H:ah}{s:Nat}{ws:List World}(h1:∀k,k<2*ws.length→H[s+1+k]?=some (A2 s ws k))
 (h2:∀i j,i<ws.length→j<(nth ws i).whr.length→H[s+1+2*ws.length+fR ws i+j]?=some (wOb (nth (nth ws i).whr j))) {i:Nat} (hi:i<ws.length):
 frz H 5 (.ref (s+1+2*i) 0 (nth ws i).tags.length)=some (tL (nth ws i).tags)∧bf (frz H 4) ((List.range (nth ws i).whr.length).map (wEl (fun j=>s+1+2*ws.length+fR ws i+j) (nth ws i).whr))=some ((nth ws i).whr.map Wh.e)∧
 H[s+2+2*i]?=some (.arr 2 false 0 ((List.range (nth ws i).whr.length).map (wEl (fun j=>s+1+2*ws.length+fR ws i+j) (nth ws i).whr)))∧
 frz H 6 (.agg [.ref (s+1+2*i) 0 (nth ws i).tags.length,.ref (s+2+2*i) 0 (nth ws i).whr.length])=some (nth ws i).e:=by
 have a:=h1 (2*i) (by omega)
 have b:=h1 (2*i+1) (by omega)
 unfold A2 at a b
 rw[if_pos (by omega),show 2*i / 2=i by omega]at a
 rw[if_neg (by omega),show(2*i+1) / 2=i by omega,show s+1+(2*i+1)=s+2+2*i by omega]at b
 have w:bf (frz H 4) ((List.range (nth ws i).whr.length).map (wEl (fun j=>s+1+2*ws.length+fR ws i+j) (nth ws i).whr))=some ((List.range (nth ws i).whr.length).map (fun j=>(nth (nth ws i).whr j).e)):=j7 fun j hj=>by
  have hj:=aLu.1 hj
  have c:=h2 i j hi hj
  unfold wOb at c
  have e:=IQ H 2 (nth (nth ws i).whr j).frm
  have l:(ints (nth (nth ws i).whr j).frm).length=(nth (nth ws i).whr j).frm.length:=by simp[ints]
  simp only[wEl]
  generalize nth (nth ws i).whr j=y at*
  obtain⟨t,f⟩:=y
  simp only at c e l
  simp only[frz,bf,eY,c,l,and_self,if_true,e,aLq,aLw]
 rw[zp (fun y:Wh=>y.e)]at w
 have e:=IQ H 4 (nth ws i).tags
 have l:(ints (nth ws i).tags).length=(nth ws i).tags.length:=by simp[ints]
 have l2:((List.range (nth ws i).whr.length).map (wEl (fun j=>s+1+2*ws.length+fR ws i+j) (nth ws i).whr)).length=(nth ws i).whr.length:=by simp
 generalize (List.range (nth ws i).whr.length).map (wEl (fun j=>s+1+2*ws.length+fR ws i+j) (nth ws i).whr)=q at*
 generalize nth ws i=y at*
 obtain⟨t,f⟩:=y
 simp only at a b w e l l2 ⊢
 refine⟨?_,w,b,?_⟩
 · simp only[frz,eY,a,l,and_self,if_true,e,aLq,aLw]
 · simp only[frz,bf,eY,a,b,l,l2,and_self,if_true,e,w,aLq,aLw]
theorem UH(P T:ah)(ws:List World):bf (frz (P++(cbH P.length ws++T)) 6) (cbE P.length ws)=some (ws.map World.e):=by
 have key:bf (frz (P++(cbH P.length ws++T)) 6) ((List.range ws.length).map (B4 (fun i=>(P.length+1+2*i,P.length+2+2*i)) ws))=some ((List.range ws.length).map (fun i=>(nth ws i).e)):=j7 fun i hi=>
  (Hd (fun k hk=>C4 P T P.length ws hk) (fun i j hi hj=>C5 P T P.length ws hi hj) (aLu.1 hi)).2.2.2
 rw[zp (fun y:World=>y.e)]at key
 exact key
def XF(a b:List World):Prop:=a.length=b.length∧∀i,i<b.length→(nth a i).tags.length=(nth b i).tags.length∧(nth a i).whr.length=(nth b i).whr.length
theorem wD{a b:List World}(h:XF a b):∀i,i≤b.length→fR a i=fR b i
 | 0,_=>rfl
 | i+1,hi=>by rw[fR,fR,wD h i (by omega),(h.2 i (by omega)).2]
theorem E4(ws:List World):∀i,i≤ws.length→fR ws i=((ws.take i).flatMap World.whr).length
 | 0,_=>rfl
 | i+1,hi=>by
   rw[fR,E4 ws i (by omega),List.take_add_one,List.flatMap_append,aLv,ff (by omega)]
   simp
theorem RG(ws:List World):cbW ws=(ws.flatMap World.whr).map wOb:=by
 unfold cbW
 rw[List.map_flatMap,List.flatMap_def,List.flatMap_def,zp (fun y:World=>y.whr.map wOb)]
theorem He{ws:List World}{i:Nat}(hi:i<ws.length){y:World}(h1:y.tags.length=(nth ws i).tags.length)(h2:y.whr.length=(nth ws i).whr.length):XF (ws.set i y) ws:=by
 refine⟨by simp,fun k hk=>?_⟩
 by_cases e:k=i
 · subst e;rw[lN hk];exact⟨h1,h2⟩
 · rw[nU (fun q=>e q.symm)];exact⟨rfl,rfl⟩
theorem C6{a b:List World}(h:XF a b)(f:Nat→Nat×Nat):(List.range a.length).map (B4 f a)=(List.range b.length).map (B4 f b):=by
 rw[h.1]
 refine List.map_congr_left fun i hi=>?_
 have:=h.2 i (aLu.1 hi)
 unfold B4
 rw[this.1,this.2]
theorem UI(s:Nat)(ws:List World){i j:Nat}(hi:i<ws.length)(hj:j<(nth ws i).whr.length)(l:List Int)(hl:l.length=(nth (nth ws i).whr j).frm.length):
 (cbH s ws).set (1+2*ws.length+fR ws i+j) (.arr 1 false 0 (ints l))=cbH s (ws.set i ⟨(nth ws i).tags,(nth ws i).whr.set j ⟨(nth (nth ws i).whr j).time,l⟩⟩):=by
 have sh:XF (ws.set i ⟨(nth ws i).tags,(nth ws i).whr.set j ⟨(nth (nth ws i).whr j).time,l⟩⟩) ws:=He hi rfl (by simp)
 have e1:=C6 sh (fun i=>(s+1+2*i,s+2+2*i))
 have e2:(List.range (2*(ws.set i ⟨(nth ws i).tags,(nth ws i).whr.set j ⟨(nth (nth ws i).whr j).time,l⟩⟩).length)).map (A2 s (ws.set i ⟨(nth ws i).tags,(nth ws i).whr.set j ⟨(nth (nth ws i).whr j).time,l⟩⟩))=(List.range (2*ws.length)).map (A2 s ws):=by
  rw[sh.1]
  refine List.map_congr_left fun k hk=>?_
  have hk:=aLu.1 hk
  unfold A2
  rw[wD sh _ (by omega),sh.1]
  by_cases c:k / 2=i
  · rw[c,lN hi]
    simp only[List.length_set]
    have:∀g,(List.range (nth ws i).whr.length).map (wEl g ((nth ws i).whr.set j ⟨(nth (nth ws i).whr j).time,l⟩))=(List.range (nth ws i).whr.length).map (wEl g (nth ws i).whr):=fun g=>List.map_congr_left fun q hq=>by
     unfold wEl
     by_cases d:q=j
     · subst d;rw[lN hj];simp only[hl]
     · rw[nU (fun z=>d z.symm)]
    rw[this]
  · rw[nU (fun z=>c z.symm)]
 have e3:(cbW ws).set (fR ws i+j) (.arr 1 false 0 (ints l))=cbW (ws.set i ⟨(nth ws i).tags,(nth ws i).whr.set j ⟨(nth (nth ws i).whr j).time,l⟩⟩):=by
  rw[RG,RG,E4 ws i (by omega),List.set_eq_take_append_cons_drop (l:=ws),if_pos hi]
  conv=>lhs;rw[← List.take_append_drop i ws,List.drop_eq_getElem_cons hi]
  have gi:ws[i]=nth ws i:=(bP (aLc hi)).symm
  rw[gi]
  simp only[List.flatMap_append,List.flatMap_cons,List.map_append,List.take_left']
  have tl:((ws.take i++nth ws i::ws.drop (i+1)).take i)=ws.take i:=by rw[List.take_left' (by simp;omega)]
  rw[tl,List.set_append_right _ _ (by simp)]
  simp only[List.length_map]
  rw[show((ws.take i).flatMap World.whr).length+j-((ws.take i).flatMap World.whr).length=j by omega,List.set_append_left _ _ (by simpa using hj),List.map_set]
  rfl
 unfold cbH
 rw[e1,e2,←e3,List.set_append_right _ _ (by simp;omega),List.set_append_right _ _ (by simp;omega)]
 congr 3
 simp;omega
theorem Mx{a b:List World}(h:a.length=b.length)(hw:∀i,i<b.length→(nth a i).whr.map wOb=(nth b i).whr.map wOb):cbW a=cbW b:=by
 unfold cbW
 rw[h,List.flatMap_def,List.flatMap_def,List.map_congr_left fun i hi=>hw i (aLu.1 hi)]
theorem My(s:Nat)(ws:List World){i:Nat}(hi:i<ws.length)(l:List Int)(hl:l.length=(nth ws i).tags.length):
 (cbH s ws).set (1+2*i) (.arr 1 false 0 (ints l))=cbH s (ws.set i ⟨l,(nth ws i).whr⟩):=by
 have sh:XF (ws.set i ⟨l,(nth ws i).whr⟩) ws:=He hi hl rfl
 have e1:=C6 sh (fun i=>(s+1+2*i,s+2+2*i))
 have e3:cbW (ws.set i ⟨l,(nth ws i).whr⟩)=cbW ws:=Mx sh.1 fun k hk=>by
  by_cases c:k=i
  · subst c;rw[lN hk]
  · rw[nU (fun z=>c z.symm)]
 have e2:(List.range (2*(ws.set i ⟨l,(nth ws i).whr⟩).length)).map (A2 s (ws.set i ⟨l,(nth ws i).whr⟩))=((List.range (2*ws.length)).map (A2 s ws)).set (2*i) (.arr 1 false 0 (ints l)):=by
  rw[sh.1]
  apply List.ext_getElem?
  intro k
  by_cases hk:k<2*ws.length
  · rw[aLn,aLp hk,List.getElem?_set]
    simp only[aLw,List.length_map,List.length_range,aLn,aLp hk]
    by_cases c:2*i=k
    · subst c
      rw[if_pos rfl,if_pos hk]
      unfold A2
      rw[if_pos (by omega),show 2*i / 2=i by omega,lN hi]
    · rw[if_neg c]
      unfold A2
      rw[wD sh _ (by omega),sh.1]
      by_cases d:k / 2=i
      · rw[d,lN hi,if_neg (by omega),if_neg (by omega)]
      · rw[nU (fun z=>d z.symm)]
  · rw[aLm (by simp only[List.length_map,List.length_range,List.length_set];omega),aLm (by simp only[List.length_map,List.length_range,List.length_set];omega)]
 unfold cbH
 rw[e1,e2,e3,List.set_append_right _ _ (by simp only[List.length_singleton];omega),List.set_append_left _ _ (by simp only[List.length_map,List.length_range,List.length_singleton];omega)]
 congr 3
 simp
theorem UJ(s:Nat)(ws:List World){i:Nat}(hi:i<ws.length)(hj:0<(nth ws i).whr.length)(t:Int):
 (cbH s ws).set (2+2*i) (.arr 2 false 0 (((List.range (nth ws i).whr.length).map (wEl (fun j=>s+1+2*ws.length+fR ws i+j) (nth ws i).whr)).set 0 (.agg [I t,.ref (s+1+2*ws.length+fR ws i) 0 (nth (nth ws i).whr 0).frm.length])))=
 cbH s (ws.set i ⟨(nth ws i).tags,(nth ws i).whr.set 0 ⟨t,(nth (nth ws i).whr 0).frm⟩⟩):=by
 have sh:XF (ws.set i ⟨(nth ws i).tags,(nth ws i).whr.set 0 ⟨t,(nth (nth ws i).whr 0).frm⟩⟩) ws:=He hi rfl (by simp)
 have e1:=C6 sh (fun i=>(s+1+2*i,s+2+2*i))
 have e3:cbW (ws.set i ⟨(nth ws i).tags,(nth ws i).whr.set 0 ⟨t,(nth (nth ws i).whr 0).frm⟩⟩)=cbW ws:=Mx sh.1 fun k hk=>by
  by_cases c:k=i
  · subst c
    rw[lN hk]
    apply List.ext_getElem?
    intro q
    simp only[aLn]
    by_cases d:q<(nth ws k).whr.length
    · rw[ff (by simpa using d),ff d]
      by_cases e:q=0
      · subst e;rw[lN d];rfl
      · rw[nU (fun z=>e z.symm)]
    · rw[aLm (by simp;omega),aLm (by omega)]
  · rw[nU (fun z=>c z.symm)]
 have e2:(List.range (2*(ws.set i ⟨(nth ws i).tags,(nth ws i).whr.set 0 ⟨t,(nth (nth ws i).whr 0).frm⟩⟩).length)).map (A2 s (ws.set i ⟨(nth ws i).tags,(nth ws i).whr.set 0 ⟨t,(nth (nth ws i).whr 0).frm⟩⟩))=
  ((List.range (2*ws.length)).map (A2 s ws)).set (2*i+1) (.arr 2 false 0 (((List.range (nth ws i).whr.length).map (wEl (fun j=>s+1+2*ws.length+fR ws i+j) (nth ws i).whr)).set 0 (.agg [I t,.ref (s+1+2*ws.length+fR ws i) 0 (nth (nth ws i).whr 0).frm.length]))):=by
  rw[sh.1]
  apply List.ext_getElem?
  intro k
  by_cases hk:k<2*ws.length
  · rw[aLn,aLp hk,List.getElem?_set]
    simp only[aLw,List.length_map,List.length_range,aLn,aLp hk]
    by_cases c:2*i+1=k
    · subst c
      rw[if_pos rfl,if_pos hk]
      unfold A2
      rw[if_neg (by omega),show(2*i+1) / 2=i by omega,lN hi,wD sh _ (by omega),sh.1]
      congr 2
      apply List.ext_getElem?
      intro q
      simp only[List.length_set]
      by_cases d:q<(nth ws i).whr.length
      · rw[aLn,aLp d,List.getElem?_set]
        simp only[aLw,List.length_map,List.length_range,aLn,aLp d]
        by_cases e:0=q
        · subst e
          rw[if_pos rfl,if_pos hj]
          simp only[wEl,lN hj,Nat.add_zero]
        · rw[if_neg e]
          simp only[wEl,nU e]
      · rw[aLm (by simp only[List.length_map,List.length_range,List.length_set];omega),aLm (by simp only[List.length_map,List.length_range,List.length_set];omega)]
    · rw[if_neg c]
      unfold A2
      rw[wD sh _ (by omega),sh.1]
      by_cases d:k / 2=i
      · rw[d,lN hi,if_pos (by omega),if_pos (by omega)]
      · rw[nU (fun z=>d z.symm)]
  · rw[aLm (by simp only[List.length_map,List.length_range,List.length_set];omega),aLm (by simp only[List.length_map,List.length_range,List.length_set];omega)]
 unfold cbH
 rw[e1,e2,e3,List.set_append_right _ _ (by simp;omega),List.set_append_left _ _ (by simp;omega)]
 congr 3
 simp;omega
end Go.Ev
namespace Go.Ev
open Go
variable [Lib] [cz] [bZ]
@[go_sem] theorem UK (l : List Place) : o9 2 (l.map Place.e) = true := by cases l <;> rfl
@[go_sem] theorem XG (l : List Road) : o9 10 (l.map Road.e) = true := by cases l <;> rfl
@[go_sem] theorem XH (H : ah) (d : aE) : O5 H 0 1 false (some d.obj) = some (.t (tL d.L), H) := by simp only [aE.obj, go_sem]
def aE.fA(d:aE):Nat→List Place×aE
 | 0=>([],d)
 | k+1=>if k=0 then((d.fA k).1++[⟨-10*((d.fA k).2.next 4).1,true⟩],((d.fA k).2.next 4).2)
   else((d.fA k).1++[⟨-10*((d.fA k).2.next 4).1,(((d.fA k).2.next 4).2.one 6).1⟩],(((d.fA k).2.next 4).2.one 6).2)
def aE.J8(d:aE)(i:Int):Road×aE:=
 (⟨i-1-(d.next (min i 2)).1,i,1+((d.next (min i 2)).2.of [11,59,119,4]).1,1+(((d.next (min i 2)).2.of [11,59,119,4]).2.of [9,3,19]).1,true,false,1,1,0,0⟩,
   (((d.next (min i 2)).2.of [11,59,119,4]).2.of [9,3,19]).2)
def aE.lO(d:aE):Nat→List Road×aE
 | 0=>([],d)
 | k+1=>((d.lO k).1++[((d.lO k).2.J8 (k+1)).1],((d.lO k).2.J8 (k+1)).2)
def aE.rq(d:aE)(n:Int):Road×aE:=
 let a:=d.next n
 let b:=a.2.next n
 let l:=b.2.of [11,59,199]
 let r:=l.2.of [9,3]
 let w:=r.2.next 5
 let c:=w.2.one 6
 (⟨a.1,b.1,1+l.1,1+r.1,decide (0<w.1),c.1,1,1,0,0⟩,c.2)
def aE.more(n:Int)(l:List Road)(d:aE):Nat→List Road×aE
 | 0=>(l,d)
 | k+1=>if l.length<10 then aE.more n (if(d.rq n).1.frm=(d.rq n).1.to then l else l++[(d.rq n).1]) (d.rq n).2 k else(l,d)
def aE.ve(d:aE):Nat:=if d.L.length=0 then 4 else(2+(d.next 6).1).toNat
def aE.Mz(d:aE):List Place×aE:=(d.next 6).2.fA d.ve
def aE.C7(d:aE):List Road×aE:=d.Mz.2.lO (d.ve-1)
def aE.PI(d:aE):List Road×aE:=aE.more d.ve d.C7.1 (d.C7.2.next 4).2 (d.C7.2.next 4).1.toNat
def aE.RH(d:aE):aP×aE:=(⟨d.Mz.1,d.PI.1⟩,d.PI.2)
theorem aE.lQ{d:aE}(h:d.dO):∀n,(d.fA n).2.dO
 | 0=>h
 | n+1=>by
   unfold aE.fA
   split
   · exact aE.a7 (aE.lQ h n) 4
   · exact aE.EB (aE.a7 (aE.lQ h n) 4) 6
theorem aE.rr(d:aE):∀n,(d.fA n).1.length=n
 | 0=>rfl
 | n+1=>by
   unfold aE.fA
   split<;>simp[d.rr n]
theorem aE.Hf{d:aE}(h:d.dO)(i:Int):(d.J8 i).2.dO:=aE.qX (aE.qX (aE.a7 h _) _) _
theorem aE.oY{d:aE}(h:d.dO):∀n,(d.lO n).2.dO
 | 0=>h
 | n+1=>aE.Hf (aE.oY h n) _
theorem aE.tO(d:aE):∀n,(d.lO n).1.length=n
 | 0=>rfl
 | n+1=>by simp[aE.lO,d.tO n]
theorem aE.Aq{d:aE}(h:d.dO)(n:Int):(d.rq n).2.dO:=by
 unfold aE.rq;simp only
 exact aE.EB (aE.a7 (aE.qX (aE.qX (aE.a7 (aE.a7 h _) _) _) _) _) _
theorem aE.B5(n:Int):∀(k:Nat) (l:List Road) {d:aE},d.dO→(aE.more n l d k).2.dO
 | 0,l,d,h=>h
 | k+1,l,d,h=>by
   unfold aE.more
   split
   · exact aE.B5 n k _ (aE.Aq h n)
   · exact h
theorem aE.J9{d:aE}(h:d.dO):d.RH.2.dO:=
 aE.B5 _ _ _ (aE.a7 (aE.oY (aE.lQ (aE.a7 h _) _) _) _)
abbrev C8:List D:=[I 0,I 0,I 12,I 10,B true,B false,I 1,I 1,I 0,I 0]
theorem Ka(d:aE)(hd:d.dO)(n:Nat)(hn:n≤8)(a b c e f:D):
 exS aH K.pX ⟨[.bp 0 0,.bp 1 0,.bp 2 0,I n,I 0,a,b,c,e,f],[d.obj,.box [.nil,.nil],.box [.ref 3 0 0,.ref 4 0 0],.arr 2 false 0 [],.arr 10 false 0 []]⟩=
 some (.exit 0,⟨[.bp 0 0,.bp 1 0,.bp 2 0,I n,I n,.und,.und,.und,.und,.und],[(d.fA n).2.obj,.box [.nil,.nil],.box [.ref 3 0 (d.fA n).1.length,.ref 4 0 0],.arr 2 false 0 (((d.fA n).1.map Place.e).map .t),.arr 10 false 0 []]⟩):=by
 refine dw (fun j=>⟨[.bp 0 0,.bp 1 0,.bp 2 0,I n,I j,.und,.und,.und,.und,.und],[(d.fA j).2.obj,.box [.nil,.nil],.box [.ref 3 0 (d.fA j).1.length,.ref 4 0 0],.arr 2 false 0 (((d.fA j).1.map Place.e).map .t),.arr 10 false 0 []]⟩) n rfl ?_ ?_ (by simp)
 · intro j hj
   have ln:=d.rr j
   have lt:=aE.lQ hd j
   simp only[aE.fA]
   generalize d.fA j=s at*
   obtain⟨l,d1⟩:=s
   simp only at ln lt ⊢
   have h1:=ij d1 4 (by omega) lt
   have b1:=d1.eE 4
   have b2:=d1.eG (n:=4) (by omega)
   have l1:=aE.a7 lt 4
   generalize d1.next 4=a1 at*
   obtain⟨x,d2⟩:=a1
   simp only at h1 b1 b2 l1 ⊢
   by_cases j0:j=0
   · subst j0
     simp(disch:=omega)only[go_sem,K.jt,h1,↓reduceIte,reduceAdd,reduceSub]
   · have h2:=Rk d2 6 (by omega) (by omega) l1
     simp(disch:=omega)only[go_sem,K.jt,h1,h2,j0,↓reduceIte,reduceAdd,reduceSub]
 · simp(disch:=omega)only[go_sem,K.jt,↓reduceIte]
theorem Kb(d:aE)(hd:d.dO)(n:Nat)(hn:n≤8)(h1:1≤n)(ps:List Place)(a b c e:D):
 exS aH K.pY ⟨[.bp 0 0,.bp 1 0,.bp 2 0,I n,a,.bp 5 0,I 1,b,c,e],[d.obj,.box [.nil,.nil],.box [.ref 3 0 ps.length,.ref 4 0 0],.arr 2 false 0 ((ps.map Place.e).map .t),.arr 10 false 0 [],.box C8]⟩=
 some (.exit 2,⟨[.bp 0 0,.bp 1 0,.bp 2 0,I n,.und,.bp 5 0,I n,.und,.und,.und],[(d.lO (n-1)).2.obj,.box [.nil,.nil],.box [.ref 3 0 ps.length,.ref 4 0 (d.lO (n-1)).1.length],.arr 2 false 0 ((ps.map Place.e).map .t),.arr 10 false 0 (((d.lO (n-1)).1.map Road.e).map .t),.box C8]⟩):=by
 refine dw (fun j=>⟨[.bp 0 0,.bp 1 0,.bp 2 0,I n,.und,.bp 5 0,I (j+1),.und,.und,.und],[(d.lO j).2.obj,.box [.nil,.nil],.box [.ref 3 0 ps.length,.ref 4 0 (d.lO j).1.length],.arr 2 false 0 ((ps.map Place.e).map .t),.arr 10 false 0 (((d.lO j).1.map Road.e).map .t),.box C8]⟩) (n-1) rfl ?_ ?_ (by simp)
 · intro j hj
   have ln:=d.tO j
   have lt:=aE.oY hd j
   simp only[aE.lO]
   generalize d.lO j=s at*
   obtain⟨l,d1⟩:=s
   simp only[aE.J8]at ln lt ⊢
   have h1:=ij d1 (min ((j:Int)+1) 2) (by omega) lt
   have b1:=d1.eE (min ((j:Int)+1) 2)
   have b2:=d1.eG (n:=min ((j:Int)+1) 2) (by omega)
   have l1:=aE.a7 lt (min ((j:Int)+1) 2)
   generalize d1.next (min ((j:Int)+1) 2)=a1 at*
   obtain⟨x,d2⟩:=a1
   simp only at h1 b1 b2 l1 ⊢
   have h2:=Pr d2 [11,59,119,4] (by simp) (by simp) l1
   have m2:=d2.yq (l:=[11,59,119,4]) (by simp)
   have l2:=aE.qX l1 [11,59,119,4]
   generalize d2.of [11,59,119,4]=a2 at*
   obtain⟨y,d3⟩:=a2
   simp only[tL,List.map_cons,List.map_nil]at h2 m2 l2 ⊢
   have h3:=Pr d3 [9,3,19] (by simp) (by simp) l2
   have m3:=d3.yq (l:=[9,3,19]) (by simp)
   generalize d3.of [9,3,19]=a3 at*
   obtain⟨z,d4⟩:=a3
   simp only[tL,List.map_cons,List.map_nil,List.mem_cons,List.not_mem_nil,or_false]at h3 m2 m3 ⊢
   simp(disch:=omega)only[go_sem,K.lD,h1,h2,h3,↓reduceIte,reduceAdd,reduceSub]
 · simp(disch:=omega)only[go_sem,K.lD,↓reduceIte]
   rw[show((n-1:Nat):Int)+1=n by omega]
abbrev E5(d:aE)(ps:List Place)(l:List Road):ah:=[d.obj,.box [.nil,.nil],.box [.ref 3 0 ps.length,.ref 4 0 l.length],.arr 2 false 0 ((ps.map Place.e).map .t),.arr 10 false 0 ((l.map Road.e).map .t),.box C8]
theorem Kc(d:aE)(hd:d.dO)(n:Int)(hn:1≤n)(hn2:n≤8)(ps:List Place)(l:List Road)(hl:l.length<10)(k:Nat)(hk:k≤10):
 dV true [4,6,7,9] 6 (exS aH K.ec ⟨[.bp 0 0,.bp 1 0,.bp 2 0,I n,.und,.bp 5 0,.und,.und,I (k+1),.und],E5 d ps l⟩)=
 some ⟨[.bp 0 0,.bp 1 0,.bp 2 0,I n,.und,.bp 5 0,.und,.und,I k,.und],E5 (d.rq n).2 ps (if(d.rq n).1.frm=(d.rq n).1.to then l else l++[(d.rq n).1])⟩:=by
 unfold aE.rq E5
 simp only
 have h1:=ij d n (by omega) hd
 have l1:=aE.a7 hd n
 generalize d.next n=a1 at*
 obtain⟨x1,d1⟩:=a1
 simp only at h1 l1 ⊢
 have h2:=ij d1 n (by omega) l1
 have l2:=aE.a7 l1 n
 generalize d1.next n=a2 at*
 obtain⟨x2,d2⟩:=a2
 simp only at h2 l2 ⊢
 have h3:=Pr d2 [11,59,199] (by simp) (by simp) l2
 have m3:=d2.yq (l:=[11,59,199]) (by simp)
 have l3:=aE.qX l2 [11,59,199]
 generalize d2.of [11,59,199]=a3 at*
 obtain⟨x3,d3⟩:=a3
 simp only[tL,List.map_cons,List.map_nil]at h3 m3 l3 ⊢
 have h4:=Pr d3 [9,3] (by simp) (by simp) l3
 have m4:=d3.yq (l:=[9,3]) (by simp)
 have l4:=aE.qX l3 [9,3]
 generalize d3.of [9,3]=a4 at*
 obtain⟨x4,d4⟩:=a4
 simp only[tL,List.map_cons,List.map_nil]at h4 m4 l4 ⊢
 have h5:=ij d4 5 (by omega) l4
 have l5:=aE.a7 l4 5
 generalize d4.next 5=a5 at*
 obtain⟨x5,d5⟩:=a5
 simp only at h5 l5 ⊢
 have h6:=Rk d5 6 (by omega) (by omega) l5
 generalize d5.one 6=a6 at*
 obtain⟨x6,d6⟩:=a6
 simp only[List.mem_cons,List.not_mem_nil,or_false]at h6 m3 m4 ⊢
 by_cases e:x1=x2
 · simp(disch:=omega)only[go_sem,K.ec,h1,h2,h3,h4,h5,h6,e,↓reduceIte,reduceAdd,reduceSub]
 · simp(disch:=omega)only[go_sem,K.ec,h1,h2,h3,h4,h5,h6,e,↓reduceIte,reduceAdd,reduceSub]
theorem B6(n:Int)(hn:1≤n)(hn2:n≤8)(ps:List Place):∀(k:Nat) (d:aE) (l:List Road),d.dO→l.length≤10→k≤10→
 ∃z:Int,nN true [4,6,7,9] (exS aH K.ec) ⟨[.bp 0 0,.bp 1 0,.bp 2 0,I n,.und,.bp 5 0,.und,.und,I k,.und],E5 d ps l⟩=
 some (.exit 4,⟨[.bp 0 0,.bp 1 0,.bp 2 0,I n,.und,.bp 5 0,.und,.und,I z,.und],E5 (aE.more n l d k).2 ps (aE.more n l d k).1⟩)
 | 0,d,l,hd,hl,hk=>by
   refine⟨0,dq ?_ (by simp)⟩
   simp(disch:=omega)only[go_sem,K.ec,aE.more,↓reduceIte,reduceAdd,reduceSub]
 | k+1,d,l,hd,hl,hk=>by
   by_cases h:l.length<10
   · have hr:=Kc d hd n hn hn2 ps l h k (by omega)
     obtain⟨z,hz⟩:=B6 n hn hn2 ps k (d.rq n).2 (if(d.rq n).1.frm=(d.rq n).1.to then l else l++[(d.rq n).1]) (aE.Aq hd n) (by split<;>(try rw[aLv,List.length_singleton])<;>omega) (by omega)
     refine⟨z,iZ hr ?_⟩
     rw[hz]
     simp only[aE.more,if_pos h]
   · refine⟨(k:Int)+1,dq ?_ (by simp)⟩
     simp(disch:=omega)only[go_sem,K.ec,aE.more,↓reduceIte,reduceAdd,reduceSub]
theorem aE.IS(n:Int):∀(k:Nat) (l:List Road) (d:aE),l.length≤10→(aE.more n l d k).1.length≤10
 | 0,l,d,h=>h
 | k+1,l,d,h=>by
   unfold aE.more
   split
   · exact aE.IS n k _ _ (by split<;>(try rw[aLv,List.length_singleton])<;>omega)
   · exact h
theorem aE.zq(d:aE):2≤d.ve∧d.ve≤7:=by
 unfold aE.ve
 have:=d.eE 6
 have:=d.eG (n:=6) (by omega)
 split<;>omega
theorem UL(d:aE)(hd:d.dO):aH 0 N.cY [.bp 0 0] [d.obj]=some (.t d.RH.1.e,[d.RH.2.obj]):=by
 refine av K.m9 rfl ?_
 have nb:=d.zq
 unfold aE.RH
 have h0:=ij d 6 (by omega) hd
 have l0:=aE.a7 hd 6
 have b1:=d.eE 6
 have b2:=d.eG (n:=6) (by omega)
 have hL:=d.Rj 6
 have hN:(d.ve:Int)=if d.L.length=0 then 4 else 2+(d.next 6).1:=by unfold aE.ve;split<;>omega
 have e1:d.PI=aE.more d.ve d.C7.1 (d.C7.2.next 4).2 (d.C7.2.next 4).1.toNat:=rfl
 have e2:d.C7=d.Mz.2.lO (d.ve-1):=rfl
 have e3:d.Mz=(d.next 6).2.fA d.ve:=rfl
 generalize d.PI=X at*
 generalize d.C7=R at*
 generalize d.Mz=P at*
 generalize d.ve=n at*
 generalize d.next 6=a at*
 obtain⟨x,d1⟩:=a
 simp only at h0 l0 b1 b2 hL hN e3 ⊢
 have q1:=Ka d1 l0 n (by omega)
 have lP:=aE.lQ l0 n
 have nP:=d1.rr n
 rw[← e3]at q1 lP nP
 obtain⟨ps,d2⟩:=P
 simp only at q1 lP nP e2 ⊢
 have q2:=Kb d2 lP n (by omega) (by omega) ps
 have lR:=aE.oY lP (n-1)
 have nR:=d2.tO (n-1)
 rw[← e2]at q2 lR nR
 obtain⟨rs,d3⟩:=R
 simp only at q2 lR nR e1 ⊢
 have h4:=ij d3 4 (by omega) lR
 have l4:=aE.a7 lR 4
 have b3:=d3.eE 4
 have b4:=d3.eG (n:=4) (by omega)
 generalize d3.next 4=c at*
 obtain⟨y,d4⟩:=c
 simp only at h4 l4 b3 b4 e1 ⊢
 obtain⟨z,q3⟩:=B6 n (by omega) (by omega) ps y.toNat d4 rs l4 (by omega) (by omega)
 rw[← e1]at q3
 have q3:=xv (vs:=[.bp 0 0,.bp 1 0,.bp 2 0,I n,.und,.bp 5 0,I n,.und,I y.toNat,.und]) q3
 have ey:(y.toNat:Int)=y:=by omega
 rw[ey]at q3
 obtain⟨xs,d5⟩:=X
 have fin:∀k:Int,(exS aH K.pZ ⟨[.bp 0 0,.bp 1 0,.bp 2 0,I n,.und,.bp 5 0,I n,.und,I y,.und],E5 d4 ps rs⟩)=
  some (.exit 4,⟨[.bp 0 0,.bp 1 0,.bp 2 0,I n,.und,.bp 5 0,.und,.und,I z,.und],E5 d5 ps xs⟩):=fun _=>q3
 clear q3
 have q3:=fin 0
 clear fin
 simp only[E5]at q3
 by_cases c0:d.L.length=0
 · rw[if_pos c0]at hN
   obtain rfl:n=4:=by omega
   have e4:((4:Nat):Int)=4:=rfl
   simp only[e4]at q1 q2 q3
   simp(disch:=omega)only[go_sem,K.cY,↓reduceIte,h0,c0,q1,q2,q3,h4,hL,reduceAdd,reduceSub]
 · rw[if_neg c0]at hN
   simp(disch:=omega)only[go_sem,K.cY,↓reduceIte,h0,c0,q1,q2,q3,h4,hL,hN.symm,reduceAdd,reduceSub]
theorem aE.PJ(d:aE){n:Nat}{i:Int}(h1:1≤i)(h2:i<n):(d.J8 i).1.ok n:=by
 have b1:=d.eE (min i 2)
 have b2:=d.eG (n:=min i 2) (by omega)
 have m2:=(d.next (min i 2)).2.yq (l:=[11,59,119,4]) (by simp)
 have m3:=((d.next (min i 2)).2.of [11,59,119,4]).2.yq (l:=[9,3,19]) (by simp)
 simp only[List.mem_cons,List.not_mem_nil,or_false]at m2 m3
 unfold aE.J8
 constructor<;>(simp only;omega)
theorem aE.E6(d:aE){n:Nat}:∀k,k+1≤n→∀r∈(d.lO k).1,r.ok n
 | 0,_,r,hr=>by simp[aE.lO]at hr
 | k+1,h,r,hr=>by
   simp only[aE.lO,List.mem_append,List.mem_singleton]at hr
   rcases hr with hr | rfl
   · exact d.E6 k (by omega) r hr
   · exact aE.PJ _ (by omega) (by omega)
theorem aE.PL(d:aE){n:Nat}(hn:1≤n)(hne:(d.rq n).1.frm≠(d.rq n).1.to):(d.rq n).1.ok n:=by
 unfold aE.rq at hne ⊢
 simp only at hne ⊢
 have b1:=d.eE n
 have b2:=d.eG (n:=(n:Int)) (by omega)
 generalize d.next n=a1 at*
 obtain⟨x1,d1⟩:=a1
 simp only at*
 have c1:=d1.eE n
 have c2:=d1.eG (n:=(n:Int)) (by omega)
 generalize d1.next n=a2 at*
 obtain⟨x2,d2⟩:=a2
 simp only at*
 have m3:=d2.yq (l:=[11,59,199]) (by simp)
 generalize d2.of [11,59,199]=a3 at*
 obtain⟨x3,d3⟩:=a3
 simp only at*
 have m4:=d3.yq (l:=[9,3]) (by simp)
 generalize d3.of [9,3]=a4 at*
 obtain⟨x4,d4⟩:=a4
 simp only[List.mem_cons,List.not_mem_nil,or_false]at m3 m4 ⊢
 constructor<;>(simp only;omega)
theorem aE.MA{n:Nat}(hn:1≤n):∀(k:Nat) (l:List Road) (d:aE),(∀r∈l,r.ok n)→∀r∈(aE.more n l d k).1,r.ok n
 | 0,l,d,h=>h
 | k+1,l,d,h=>by
   unfold aE.more
   split
   · refine aE.MA hn k _ _ ?_
     split
     · exact h
     · rename_i hne
       intro r hr
       rcases List.mem_append.1 hr with hr | hr
       · exact h r hr
       · rw[List.mem_singleton.1 hr];exact d.PL hn hne
   · exact h
theorem aE.E7(n:Int):∀(k:Nat) (l:List Road) (d:aE),l.length≤(aE.more n l d k).1.length
 | 0,l,d=>aLs _
 | k+1,l,d=>by
   unfold aE.more
   split
   · refine Nat.le_trans ?_ (aE.E7 n k _ _)
     split<;>(try rw[aLv])<;>omega
   · exact aLs _
theorem aE.E8(d:aE):∀k,∀p∈(d.fA k).1, -30≤p.h∧p.h≤0
 | 0,p,hp=>by simp[aE.fA]at hp
 | k+1,p,hp=>by
   have b1:=(d.fA k).2.eE 4
   have b2:=(d.fA k).2.eG (n:=4) (by omega)
   unfold aE.fA at hp
   split at hp
   all_goals
    simp only[List.mem_append,List.mem_singleton]at hp
    rcases hp with hp | rfl
    · exact d.E8 k p hp
    · simp only;omega
theorem aE.Ar(d:aE):d.RH.1.aa.length=d.ve:=aE.rr _ _
theorem aE.B7(d:aE):d.ve-1≤d.RH.1.roads.length∧d.RH.1.roads.length≤10:=by
 have nb:=d.zq
 have e:d.C7.1.length=d.ve-1:=aE.tO _ _
 constructor
 · rw[← e];exact aE.E7 _ _ _ _
 · exact aE.IS _ _ _ _ (by omega)
theorem aE.MB(d:aE):d.RH.1.ok:=by
 have nb:=d.zq
 have h1:=d.Ar
 have h2:=d.B7
 refine⟨by omega,by omega,fun p hp=>?_,?_⟩
 · have:=aE.E8 _ _ p hp;omega
 · rw[h1]
   exact aE.MA (by omega) _ _ _ (aE.E6 _ _ (by omega))
@[go_sem] theorem aaE (l : List Spn) : o9 2 (l.map Spn.e) = true := by cases l <;> rfl
@[go_sem] theorem af8 (l : List Spn) (k : Nat) (a b : Int) : (List.map D.t (List.map Spn.e l)).set k (D.t (T.agg [tI a, tI b])) = List.map D.t (List.map Spn.e (l.set k ⟨a, b⟩)) := by
 rw[List.map_set,List.map_set]
@[go_sem] theorem aho (H : ah) (sz : Nat) (a b c d e f : T) : BW H sz [.t a, .t b, .t c, .t d, .t e, .t f] = if cK sz [a, b, c, d, e, f] = true then some (.t (.sl [a, b, c, d, e, f]), H) else none := sk H sz [a, b, c, d, e, f]
@[go_sem] theorem ahp (H : ah) (sz : Nat) (a b c d e f g : T) : BW H sz [.t a, .t b, .t c, .t d, .t e, .t f, .t g] = if cK sz [a, b, c, d, e, f, g] = true then some (.t (.sl [a, b, c, d, e, f, g]), H) else none := sk H sz [a, b, c, d, e, f, g]
@[go_sem] theorem ahq (H : ah) (sz : Nat) (a b c d e f g h : T) : BW H sz [.t a, .t b, .t c, .t d, .t e, .t f, .t g, .t h] = if cK sz [a, b, c, d, e, f, g, h] = true then some (.t (.sl [a, b, c, d, e, f, g, h]), H) else none := sk H sz [a, b, c, d, e, f, g, h]
@[go_sem] theorem aaF {α β γ : Type} {l : List α} {g : α → β} {f : β → γ} {x : γ} {j : Nat} (h : j = l.length) : (List.map f (List.map g l) ++ [x])[j]? = some x := by
 rw[aLh (by simp;omega)];simp[h]
@[go_sem] theorem adw {α β γ : Type} {l : List α} {g : α → β} {f : β → γ} {x y : γ} {j : Nat} (h : j = l.length) : (List.map f (List.map g l) ++ [x]).set j y = List.map f (List.map g l) ++ [y] := by
 rw[List.set_append_right _ _ (by simp;omega)];simp[h]
def aE.aaG(d:aE):Spn×aE:=
 let a:=d.of [0,1000,5000,20000, -5000, -20000,4999,100]
 let b:=a.2.of [0,1,1000,6000]
 let c:=b.2.of [0,1,500]
 let w:=c.2.one 9
 (if w.1=true then⟨-1125899906842624,1125899906842624⟩else⟨a.1-b.1,a.1+c.1⟩,w.2)
def aE.IT(d:aE):Nat→List Spn×aE
 | 0=>([],d)
 | k+1=>((d.IT k).1++[((d.IT k).2.aaG).1],((d.IT k).2.aaG).2)
def aE.af9(d:aE)(m:aP):List Spn×aE:=d.IT m.roads.length
theorem E9{gc:Bool}{dead:List Nat}{c:C}{vs:List D}{H:ah}(P:Nat→St→Prop)(n:Nat)(Q:Ex×St→Prop)(h0:P 0 ⟨lk dead vs,H⟩)
 (hs:∀j st,j<n→P j st→(∃st',dV gc dead st.H.length (exS aH c st)=some st'∧P (j+1) st')∨∃q,exS aH c st=some q∧q.1≠ .normal∧Q q)
 (he:∀st,P n st→∃q,exS aH c st=some q∧q.1≠ .normal∧Q q):∃q,exS aH (.loop gc dead c) ⟨vs,H⟩=some q∧Q q:=by
 have key:∀(k j:Nat) (st:St),j+k=n→P j st→∃q,nN gc dead (exS aH c) st=some q∧Q q:=by
  intro k
  induction k with
  | zero=>
    intro j st hj hp
    obtain⟨q,h1,h2,h3⟩:=he st (by rw[← hj];exact hp)
    exact⟨q,dq h1 h2,h3⟩
  | succ k ih=>
    intro j st hj hp
    rcases hs j st (by omega) hp with⟨st',h1,h2⟩ | ⟨q,h1,h2,h3⟩
    · obtain⟨q,h3,h4⟩:=ih (j+1) st' (by omega) h2
      exact⟨q,iZ h1 h3,h4⟩
    · exact⟨q,dq h1 h2,h3⟩
 exact key n 0 _ (by omega) h0
theorem aaH(l:List Int):aH 0 N.kd [.t (tL l)] []=some (.bp 0 0,[aE.obj ⟨l,0⟩]):=by
 refine av K.uS rfl ?_
 simp(disch:=omega)only[go_sem,K.kd,↓reduceIte,aE.obj,reduceAdd,reduceSub]
theorem B8{d:aE}(hd:d.dO)(n:Int)(h1:1≤n)(hn:n≤4611686018427387904):
 ∃(v:Int) (e:aE),aH 0 N.ax [.bp 0 0,I n] [d.obj]=some (I v,[e.obj])∧e.dO∧0≤v∧v<n:=
 ⟨_,_,ij d n hn hd,aE.a7 hd n,d.eE n,d.eG h1⟩
theorem aaI{d:aE}(hd:d.dO):
 ∃(m:aP) (e:aE),aH 0 N.cY [.bp 0 0] [d.obj]=some (.t m.e,[e.obj])∧e.dO∧m.ok∧2≤m.aa.length∧m.aa.length≤7∧1≤m.roads.length∧m.roads.length≤10:=by
 have b:=d.zq
 have p:=d.Ar
 have r:=d.B7
 exact⟨_,_,UL d hd,aE.J9 hd,d.MB,by omega,by omega,by omega,by omega⟩
end Go.Ev
namespace Go.Ev
open Go
variable [Lib] [cz] [bZ] [gU] [gJ]
structure Req where
 x:PB
 s:adv
 k:Keys
 b:Bel
 t:Int
 from_:Int
abbrev Req.e(r:Req):T:= .agg [tL r.x.area,tI r.x.hold,tI r.x.mis,tI r.s.st,tI r.s.fi,tI r.s.se,tI r.s.ti,tL r.k.roads,tL r.k.keys,.bool r.k.out,.sl (r.b.aq.map World.e),tI r.t,tI r.from_]
structure Req.sz(r:Req):Prop where
 hx:r.x.area.length≤1000000
 hk:r.k.roads.length≤1000000
 hk2:r.k.keys.length≤1000000
 hb:r.b.sz
section
variable (x : PB) (s : adv) (k : Keys) (b : Bel) (hx : x.area.length ≤ 1000000) (hk : k.roads.length ≤ 1000000) (hk2 : k.keys.length ≤ 1000000) (hb : b.sz)
include hx hk hk2 hb
end
end Go.Ev
namespace Go.Ev
open Go
variable [Lib] [cz] [bZ] [gU] [gJ]
section
variable (area : List Int) (ha : area.length ≤ 1000000) (xs : List World) (hx : xs.length ≤ 1000000)
include ha hx
end
end Go.Ev
namespace Go.Ev.N
def MC:Nat:=123
def KW:Nat:=124
def Ol:Nat:=125
def MD:Nat:=126
def UM:Nat:=127
def UN:Nat:=128
def UO:Nat:=129
def XI:Nat:=130
def XJ:Nat:=131
def UP:Nat:=132
def UQ:Nat:=133
def PM:Nat:=134
def PN:Nat:=135
def XK:Nat:=136
def UR:Nat:=137
def PO:Nat:=138
def RI:Nat:=139
def Om:Nat:=140
def RJ:Nat:=141
def PQ:Nat:=142
def ME:Nat:=143
def MF:Nat:=144
def cV:Nat:=145
def RK:Nat:=146
def RL:Nat:=147
def bT:Nat:=148
end Go.Ev.N
namespace Go.Ev.N
def IU:Nat:=149
def MG:Nat:=150
def MH:Nat:=151
def KX:Nat:=152
def US:Nat:=153
def UT:Nat:=154
def RM:Nat:=155
def RN:Nat:=156
def UU:Nat:=157
def XL:Nat:=158
def UW:Nat:=159
def bK:Nat:=160
def IV:Nat:=161
def UX:Nat:=162
def XM:Nat:=163
def RO:Nat:=164
def XN:Nat:=165
def RP:Nat:=166
def et:Nat:=167
def tY:Nat:=168
def PR:Nat:=169
def ed:Nat:=170
def Kd:Nat:=171
def PS:Nat:=172
def jc:Nat:=173
def vr:Nat:=174
def MI:Nat:=175
def dz:Nat:=176
def gp:Nat:=177
end Go.Ev.N
namespace Go.Ev.K
open Go.Ev
def dA:C:= (.seq (.ite [m v6,m v5,u (.ln l0),u (.bin .lss l2 l0)] [] 0 .skip (.exit 0)) (.blk 1 (.reg [m v6,m v5,m v6,u (.sc l1 (some l0) none 1),m v5,m v6,u (.sc l1 none (some l0) 1),u (.cp l3 l0 1),u (.bin .add l7 l0),x 6 l0] [])))
def kW:C:= .loop true [0,1,2,3,4] K.dA
def bK:Fn:= { aU:=2,vars:=[0,1,4,5,6,7,8],body:=(q [w 2 (.mv (.c (.nil)))] [] (.seq (.ite [m v1,u (.bin .lss l0 (.i 0))] [] 0 .fail .skip) (q [m v0,u (.ln l0),u (.cv .u64 l0),m v1,u (.cv .u64 l0),u (.ca N.ed 0 [] [.l 2,.l 0]),m l0,u (.ex l0 0),u (.ex l1 1),x 3 l1,x 4 l1] [] (.seq (.ite [m v3,u (.bin .gtr l0 (.c (.t (.int .u64 (0))))),m l0,e 0 false v4,y 1 false (.bin .gtr l0 (.c (.t (.int .u64 (9223372036854775807))))),u (.pk l2 (.b true) l0)] [] 0 .fail .skip) (q [m v4,u (.cv .i64 l0),u (.mk l0 (z0) 1),x 5 l0] [] (q [m v5,m v0,u (.cp l1 l0 1),x 6 l0] [] (.seq (.blk 0 K.kW) (q [m v5,x 2 l0] [] .ret)))))))),res:=[(2,none)]}
def et:Fn:= { aU:=1,vars:=[0,1,2],body:=(q [w 1 (.bx v0 2),x 2 (.b false)] [] (q [h 2 v1,u (.ca N.jc 0 [] [.l 0]),u (.bin .eql l0 (.i 0)),x 2 l0] [] .ret)),res:=[(2,none)]}
def ed:Fn:= { aU:=2,vars:=[0,1,4,5,8,9],body:=(q [w 2 (.mv (.c (.t (.int .u64 (0))))),w 3 (.mv (.c (.t (.int .u64 (0)))))] [] (.seq (.cnd false .skip) (q [m v0,m v1,u (.ca N.dz 0 [] [.l 1,.l 0]),m l0,u (.ex l0 0),u (.ex l1 1),x 4 l1,x 5 l1] [] (q [m v4,m v5,x 2 l1,x 3 l1] [] .ret)))),res:=[(2,none),(3,none)]}
end Go.Ev.K
namespace Go.Ev
class gV [Lib]:Prop where
 iR:Lib.fs N.bK=some K.bK
 sT:Lib.fs N.et=some K.et
 oA:Lib.fs N.ed=some K.ed
namespace K
variable [Lib] [gV]
theorem iR:Lib.fs N.bK=some K.bK:=gV.iR
theorem sT:Lib.fs N.et=some K.et:=gV.sT
theorem oA:Lib.fs N.ed=some K.ed:=gV.oA
end K
end Go.Ev
namespace Go.Ev.K
open Go.Ev
def pz:C:= (.its [u (.bin .lss v8 v7)] [] 0 .skip (.exit 0) (.seq (.blk 1 (q [a 2 v6 v8,h 2 l0,w 3 (.al [z0,z1] []),u (.st l0 l1 2 [])] [] (.ite [f 0 v3,g l0,u (.bin .lss l0 (.i (-10000))),m l0,y 0 false (.fa v3 0),i 1 false l0,y 2 false (.bin .gtr l0 (.i 10000)),u (.pk l3 (.b true) l0)] [] 0 (q [x 2 (.i 1)] [] .ret) .skip))) (.reg [u (.bin .add v8 (.i 1)),x 8 l0] [])))
def wE:C:= .loop true [0,2,3,4,5,9,10,11] K.pz
def pA:C:= (.its [u (.bin .lss v11 v10)] [] 0 .skip (.exit 2) (.seq (.blk 3 (q [a 10 v9 v11,h 10 l0,w 5 (.al [z0,z0,z0,z0,z1,z1,z0,z0,z0,z0] []),u (.st l0 l1 10 [])] [] (.seq (.ite [f 0 v5,g l0,u (.bin .lss l0 (.i 0)),m l0,y 0 false (.fa v5 0),i 1 false l0,e 2 false v4,y 3 false (.bin .geq l1 l0),u (.pk l4 (.b true) l0),m l0,y 0 false (.fa v5 1),i 1 false l0,y 2 false (.bin .lss l0 (.i 0)),u (.pk l3 (.b true) l0),m l0,y 0 false (.fa v5 1),i 1 false l0,e 2 false v4,y 3 false (.bin .geq l1 l0),u (.pk l4 (.b true) l0),m l0,y 0 false (.fa v5 0),i 1 false l0,y 2 false (.fa v5 1),i 3 false l0,y 4 false (.bin .eql l2 l0),u (.pk l5 (.b true) l0)] [] 0 (q [x 2 (.i 4)] [] .ret) .skip) (.seq (.ite [f 2 v5,g l0,u (.bin .lss l0 (.i 1)),m l0,y 0 false (.fa v5 2),i 1 false l0,y 2 false (.bin .gtr l0 (.i 100000)),u (.pk l3 (.b true) l0),m l0,y 0 false (.fa v5 3),i 1 false l0,y 2 false (.bin .lss l0 (.i 1)),u (.pk l3 (.b true) l0),m l0,y 0 false (.fa v5 3),i 1 false l0,y 2 false (.bin .gtr l0 (.i 1000)),u (.pk l3 (.b true) l0)] [] 0 (q [x 2 (.i 1)] [] .ret) .skip) (.ite [f 6 v5,h 2 l0,u (.ca N.gp 0 [] [.l 0,.i 1,.i 262144]),u (.un .not l0),m l0,y 0 false (.fa v5 8),y 1 false (.ld l0 2 true),y 2 false (.ca N.gp 0 [] [.l 0,.i (-2199023255552),.i 2199023255552]),y 3 false (.un .not l0),u (.pk l4 (.b true) l0)] [] 0 (q [x 2 (.i 1)] [] .ret) .skip))))) (.reg [u (.bin .add v11 (.i 1)),x 11 l0] [])))
def wF:C:= .loop true [0,1,2,3,5,6,7,8] K.pA
def jc:Fn:= { aU:=1,vars:=[0,1,2,4,5,7,19,20,21,38,39,40],body:=(q [w 1 (.bx v0 2),x 2 (.i 0)] [] (.seq (.ite [f 0 v1,g l0,u (.ln l0),u (.bin .gtr l0 (.i 64)),m l0,y 0 false (.fa v1 1),i 1 false l0,y 2 false (.ln l0),y 3 false (.bin .gtr l0 (.i 128)),u (.pk l4 (.b true) l0)] [] 0 (q [x 2 (.i 2)] [] .ret) .skip) (.seq (q [f 0 v1,w 6 (.ld l0 1 false),w 7 (.ln l0),x 8 (.i 0)] [] (.blk 0 K.wE)) (q [f 0 v1,g l0,u (.ln l0),x 4 l0] [] (.seq (q [f 1 v1,w 9 (.ld l0 1 false),w 10 (.ln l0),x 11 (.i 0)] [] (.blk 2 K.wF)) (q [x 2 (.i 0)] [] .ret)))))),res:=[(2,none)]}
def dz:Fn:= { aU:=2,vars:=[0,1,4,5,6,7,8,9,10,11,12,13],body:=(q [w 2 (.mv (.c (.t (.int .u64 (0))))),w 3 (.mv (.c (.t (.int .u64 (0)))))] [] (q [m v0,u (.bin .and l0 (.c (.t (.int .u64 (4294967295))))),x 4 l0] [] (q [m v0,u (.bin .shr l0 (.c (.t (.int .u64 (32))))),x 5 l0] [] (q [m v1,u (.bin .and l0 (.c (.t (.int .u64 (4294967295))))),x 6 l0] [] (q [m v1,u (.bin .shr l0 (.c (.t (.int .u64 (32))))),x 7 l0] [] (q [m v4,m v6,u (.bin .mul l1 l0),x 8 l0] [] (q [m v5,m v6,u (.bin .mul l1 l0),m v8,u (.bin .shr l0 (.c (.t (.int .u64 (32))))),u (.bin .add l2 l0),x 9 l0] [] (q [m v9,u (.bin .and l0 (.c (.t (.int .u64 (4294967295))))),x 10 l0] [] (q [m v9,u (.bin .shr l0 (.c (.t (.int .u64 (32))))),x 11 l0] [] (q [m v10,m v4,m v7,u (.bin .mul l1 l0),u (.bin .add l3 l0),x 10 l0] [] (q [m v5,m v7,u (.bin .mul l1 l0),m v11,u (.bin .add l1 l0),m v10,u (.bin .shr l0 (.c (.t (.int .u64 (32))))),u (.bin .add l2 l0),x 2 l0] [] (q [m v0,m v1,u (.bin .mul l1 l0),x 3 l0] [] .ret)))))))))))),res:=[(2,none),(3,none)]}
def gp:Fn:= { aU:=3,vars:=[0,1,2,3,6],body:=(q [w 3 (.bx v0 2),x 4 (.b false)] [] (q [m v1,f 0 v3,g l0,u (.bin .leq l2 l0),m l0,y 0 true (.fa v3 0),i 1 true l0,y 2 true (.fa v3 1),i 3 true l0,y 4 true (.bin .leq l2 l0),u (.pk l5 l0 (.b false)),m l0,y 0 true (.fa v3 1),i 1 true l0,e 2 true v2,y 3 true (.bin .leq l1 l0),u (.pk l4 l0 (.b false)),x 4 l0] [] .ret)),res:=[(4,none)]}
end Go.Ev.K
namespace Go.Ev
class gW [Lib]:Prop where
 sU:Lib.fs N.jc=some K.jc
 mE:Lib.fs N.dz=some K.dz
 ru:Lib.fs N.gp=some K.gp
namespace K
variable [Lib] [gW]
theorem sU:Lib.fs N.jc=some K.jc:=gW.sU
theorem mE:Lib.fs N.dz=some K.dz:=gW.mE
theorem ru:Lib.fs N.gp=some K.gp:=gW.ru
end K
end Go.Ev
namespace Go.Ev
open Go
variable [Lib] [cz] [bZ] [gV] [gW]
section
variable (H : ah) (sz : Nat)
def RQ(id ep n lo hi:Nat)(ys:List D):Option Obj→Option (D×ah)
 | some (.arr sz' pin ep' es)=>if ep=ep'∧n=es.length then Sd H id ep (sz',pin,es) lo hi ys sz else none
 | _=>none
def cpD(x:D)(ys:List D):Option (D×ah):=if cJ sz ys=true then(match x with
 | .ref id ep n=>RQ H sz id ep n 0 n ys H[id]?
 | .sub id ep n lo hi=>RQ H sz id ep n lo hi ys H[id]?
 | _=>none)else none
def adx(x y:Option D):Option (D×ah):=x.bind fun a=>y.bind fun b=>Cs H a b sz
@[go_sem] theorem aic (call : aV) (get : X → Option D) (x y : X) : evO call get H (.cp x y sz) = adx H sz (get x) (get y) := (rfl)
theorem IW(x y:D)(ys:List D)(h:elems H y=some ys):Cs H x y sz=cpD H sz x ys:=by
 unfold Cs cpD
 rw[h,aLq]
 split
 · rename_i hh
   cases x with
   | ref id ep n=>
     simp only[eY,RQ]
     cases H[id]? with
     | none=>rfl
     | some o=>
       cases o with
       | box cs=>rfl
       | arr sz' pin ep' es=>
         simp only
         by_cases c:ep=ep'∧n=es.length
         · rw[if_pos c,if_pos c];rfl
         · rw[if_neg c,if_neg c];rfl
   | sub id ep n lo hi=>
     simp only[eY,RQ]
     cases H[id]? with
     | none=>rfl
     | some o=>
       cases o with
       | box cs=>rfl
       | arr sz' pin ep' es=>
         simp only
         by_cases c:ep=ep'∧n=es.length
         · rw[if_pos c,if_pos c];rfl
         · rw[if_neg c,if_neg c];rfl
   | _=>rfl
 · rfl
@[go_sem] theorem ahr (x : D) (ts : List T) : adx H sz (some x) (some (.t (.sl ts))) = cpD H sz x (ts.map .t) := IW H sz x (.t (.sl ts)) (ts.map .t) rfl
def cpE(x:D)(ep n lo hi:Nat):Option Obj→Option (D×ah)
 | some (.arr _ _ ep' es)=>if ep=ep'∧n=es.length then cpD H sz x ((es.drop lo).take (hi-lo))else none
 | _=>none
@[go_sem] theorem aga (x : D) (n lo hi sz' : Nat) (pin : Bool) (ep : Nat) (es : List D) : cpE H sz x ep n lo hi (some (.arr sz' pin ep es)) = if n = es.length then cpD H sz x ((es.drop lo).take (hi - lo)) else none := by simp [cpE]
@[go_sem] theorem ady (x : D) (id ep n lo hi : Nat) : adx H sz (some x) (some (.sub id ep n lo hi)) = cpE H sz x ep n lo hi H[id]? := by
 unfold adx
 simp only[aLq]
 cases h:H[id]? with
 | none=>simp[Cs,elems,eY,h,cpE]
 | some o=>
   cases o with
   | box cs=>simp[Cs,elems,eY,h,cpE]
   | arr sz' pin ep' es=>
     by_cases c:ep=ep'∧n=es.length
     · rw[IW H sz x _ ((es.drop lo).take (hi-lo)) (by simp[elems,eY,h,c])]
       simp only[cpE,if_pos c]
     · simp[Cs,elems,eY,h,cpE,c]
@[go_sem] theorem agb (id ep n : Nat) (ys : List D) : cpD H sz (.ref id ep n) ys = if cJ sz ys = true then RQ H sz id ep n 0 n ys H[id]? else none := (rfl)
@[go_sem] theorem agc (id ep n lo hi : Nat) (ys : List D) : cpD H sz (.sub id ep n lo hi) ys = if cJ sz ys = true then RQ H sz id ep n lo hi ys H[id]? else none := (rfl)
@[go_sem] theorem adz (id n lo hi : Nat) (ys : List D) (ep : Nat) (es : List D) : RQ H sz id ep n lo hi ys (some (.arr sz false ep es)) =
 if n=es.length then(if min ys.length (hi-lo)=0 then some (.t (.int .i64 0),H)else some (.t (.int .i64 ((min ys.length (hi-lo):Nat):Int)),H.set id (.arr sz false ep (es.take lo++ys.take (min ys.length (hi-lo))++es.drop (lo+min ys.length (hi-lo))))))else none:=by
 simp[RQ,Sd]
end
theorem PT{n:Int}(h1:0≤n)(h2:n<18446744073709551616):IntKind.u64.wrap n=n:=by
 have e:IntKind.u64.wrap n=n % 18446744073709551616:=by simp[IntKind.wrap,IntKind.signed,IntKind.bits]
 rw[e];omega
theorem aaJ{n:Nat}(h:n<4294967296):IntKind.u64.wrap ((BitVec.ofInt IntKind.u64.bits (n:Int) &&& BitVec.ofInt IntKind.u64.bits 4294967295).toNat:Nat)=(n:Int):=by
 have e:(BitVec.ofInt IntKind.u64.bits (n:Int) &&& BitVec.ofInt IntKind.u64.bits 4294967295).toNat=n:=by
  rw[BitVec.toNat_and]
  have a:(BitVec.ofInt IntKind.u64.bits (n:Int)).toNat=n:=by
   rw[BitVec.ofInt_natCast,BitVec.toNat_ofNat]
   exact Nat.mod_eq_of_lt (Nat.lt_of_lt_of_le h (by decide))
  have b:(BitVec.ofInt IntKind.u64.bits 4294967295).toNat=2 ^ 32-1:=by decide
  rw[a,b,Nat.and_two_pow_sub_one_eq_mod]
  exact Nat.mod_eq_of_lt h
 rw[e]
 exact PT (by omega) (by omega)
theorem aaK{n:Nat}(h:n<4294967296):(n:Int).fdiv (2 ^ min (32:Int).toNat IntKind.u64.bits)=0:=by
 have e:(2 ^ min (32:Int).toNat IntKind.u64.bits:Int)=4294967296:=by decide
 rw[e,Int.fdiv_eq_ediv_of_nonneg _ (by omega)]
 omega
theorem RR{n:Nat}(h:n<4294967296):(((BitVec.ofInt IntKind.u64.bits (n:Int) &&& BitVec.ofInt IntKind.u64.bits 4294967295).toNat:Nat):Int)=(n:Int):=by
 have e:=aaJ h
 rwa [PT (by omega) (by
  have:(BitVec.ofInt IntKind.u64.bits (n:Int) &&& BitVec.ofInt IntKind.u64.bits 4294967295).toNat<2 ^ IntKind.u64.bits:=BitVec.isLt _
  have:2 ^ IntKind.u64.bits=18446744073709551616:=by decide
  omega)]at e
theorem PU(a b:Nat)(ha:a<4294967296)(hb:b<4294967296)(h:a*b<4294967296):aH 0 N.dz [.t (.int .u64 a),.t (.int .u64 b)] []=some (.tup [.t (.int .u64 0),.t (.int .u64 ((a*b:Nat):Int))],[]):=by
 refine av K.mE rfl ?_
 have m:(a:Int)*(b:Int)=((a*b:Nat):Int):=(Int.natCast_mul a b).symm
 have z:=aaJ (n:=0) (by omega)
 have z2:=aaK (n:=0) (by omega)
 have z3:=RR (n:=0) (by omega)
 have g3:=fun(n:Nat) (h:n<4294967296)=>RR (n:=n) h
 have g4:=fun(n:Nat) (h:n<4294967296)=>aaK (n:=n) h
 simp only[Int.ofNat_zero,Int.natCast_zero]at z z2 z3
 simp only[go_sem]at z2 z3 g3 g4
 simp(disch:=omega)only[go_sem,K.dz,↓reduceIte,g3,g4,m,z2,z3,PT,Int.zero_mul,Int.mul_zero,Int.add_zero,Int.zero_add,reduceAdd,reduceSub]
theorem aaL(a b:Nat)(ha:a<4294967296)(hb:b<4294967296)(h:a*b<4294967296):aH 0 N.ed [.t (.int .u64 a),.t (.int .u64 b)] []=some (.tup [.t (.int .u64 0),.t (.int .u64 ((a*b:Nat):Int))],[]):=by
 refine av K.oA rfl ?_
 have m:=PU a b ha hb h
 simp(disch:=omega)only[go_sem,K.ed,↓reduceIte,m,reduceAdd,reduceSub]
def zr(v:Int)(n cur:Nat):List D:=List.replicate cur (I v)++List.replicate (n-cur) (I 0)
theorem IX(v:Int){n cur:Nat}(h:cur≤n):(zr v n cur).length=n:=by simp[zr];omega
theorem MJ(v:Int){n cur m:Nat}(h:cur+m≤n)(hm:m≤cur):(zr v n cur).take cur++((zr v n cur).take cur).take m++(zr v n cur).drop (cur+m)=zr v n (cur+m):=by
 unfold zr
 have e1:(List.replicate cur (I v)++List.replicate (n-cur) (I 0)).take cur=List.replicate cur (I v):=by
  rw[List.take_append_of_le_length (by simp),List.take_of_length_le (by simp)]
 have e2:(List.replicate cur (I v)++List.replicate (n-cur) (I 0)).drop (cur+m)=List.replicate (n-(cur+m)) (I 0):=by
  rw[List.drop_append,List.length_replicate]
  simp;omega
 rw[e1,e2,List.take_replicate,Nat.min_eq_left hm,List.replicate_append_replicate]
theorem aaM(v:Int)(n cur:Nat):∃ts:List T,zr v n cur=ts.map .t:=⟨List.replicate cur (tI v)++List.replicate (n-cur) (tI 0),by simp[zr]⟩
theorem Fa(v:Int)(n cur:Nat)(lo k:Nat):cJ 1 (((zr v n cur).drop lo).take k)=true:=by
 cases h:((zr v n cur).drop lo).take k with
 | nil=>rfl
 | cons d r=>
   have hm:d∈zr v n cur:=List.mem_of_mem_drop (List.mem_of_mem_take (h▸List.mem_cons_self))
   unfold zr at hm
   simp only[List.mem_append,List.mem_replicate]at hm
   rcases hm with⟨-,rfl⟩ | ⟨-,rfl⟩<;>rfl
theorem Hg(v:Int)(n:Nat)(hn:n≤1000000):∀(k cur:Nat),n-cur≤k→1≤cur→cur≤n→
 nN true [0,1,2,3,4] (exS aH K.dA) ⟨[.und,.und,.und,.und,.und,.ref 0 0 n,I cur],[.arr 1 false 0 (zr v n cur)]⟩=
  some (.exit 0,⟨[.und,.und,.und,.und,.und,.ref 0 0 n,I n],[.arr 1 false 0 (zr v n n)]⟩):=by
 intro k
 induction k with
 | zero=>
   intro cur h1 h2 h3
   have:cur=n:=by omega
   subst this
   refine dq ?_ (by simp)
   have rl:=IX v (aLs cur)
   simp(disch:=omega)only[go_sem,K.dA,↓reduceIte,reduceAdd,reduceSub]
 | succ k ih=>
   intro cur h1 h2 h3
   by_cases c:cur=n
   · subst c
     refine dq ?_ (by simp)
     simp(disch:=omega)only[go_sem,K.dA,↓reduceIte,reduceAdd,reduceSub]
   · have rl:=IX v (n:=n) (cur:=cur) (by omega)
     have st:=MJ v (n:=n) (cur:=cur) (m:=min cur (n-cur)) (by omega) (by omega)
     have hs:=Fa v n cur 0 cur
     rw[List.drop_zero]at hs
     have tl:((zr v n cur).take cur).length=cur:=by rw[List.length_take];omega
     refine iZ (st2:=⟨[.und,.und,.und,.und,.und,.ref 0 0 n,I ((cur+min cur (n-cur):Nat):Int)],[.arr 1 false 0 (zr v n (cur+min cur (n-cur)))]⟩) ?_ (ih _ (by omega) (by omega) (by omega))
     rw[← st]
     obtain⟨ts,hts⟩:=aaM v n cur
     have ao:∀a b c:Nat,gC 1 8 ((zr v n cur).take a)=true∧gC 1 8 (((zr v n cur).take a).take b)=true∧gC 1 8 ((zr v n cur).drop c)=true:=fun a b c=>by
      rw[hts,←List.map_take,←List.map_take,←List.map_drop]
      simp only[go_sem,and_self]
     have ao1:=fun a=>(ao a 0 0).1
     have ao2:=fun a b=>(ao a b 0).2.1
     have ao3:=fun c=>(ao 0 0 c).2.2
     clear ao hts
     generalize zr v n cur=es at*
     simp(disch:=omega)only[go_sem,K.dA,↓reduceIte,rl,hs,tl,ao1,ao2,ao3,and_self,List.drop_zero,Nat.sub_zero,reduceAdd,reduceSub]
theorem MK(v:Int)(n:Nat)(h1:1≤n)(hn:n≤1000000):aH 1 N.bK [.t (tL [v]),I n] []=some (.ref 0 0 n,[.arr 1 false 0 (List.replicate n (I v))]):=by
 refine av K.iR rfl ?_
 have m:=aaL 1 n (by omega) (by omega) (by omega)
 rw[Nat.one_mul]at m
 change aH 0 N.ed [.t (.int .u64 1),.t (.int .u64 n)] []=_ at m
 have w1:IntKind.u64.wrap 1=1:=by decide
 have w2:IntKind.u64.wrap (n:Int)=n:=PT (by omega) (by omega)
 have w3:IntKind.i64.wrap (n:Int)=n:=xq (by omega) (by omega)
 have lp:=Hg v n hn n 1 (by omega) (by omega) h1
 have loop:∀z0 z1 z2 z3 z4:D,exS aH K.kW ⟨[z0,z1,z2,z3,z4,.ref 0 0 n,I 1],[.arr 1 false 0 (I v::List.replicate (n-1) (I 0))]⟩=some (.exit 0,⟨[.und,.und,.und,.und,.und,.ref 0 0 n,I n],[.arr 1 false 0 (List.replicate n (I v))]⟩):=by
  intro z0 z1 z2 z3 z4
  have e1:zr v n 1=I v::List.replicate (n-1) (I 0):=rfl
  have e2:zr v n n=List.replicate n (I v):=by simp[zr]
  rw[e1,e2]at lp
  exact lp
 have dr:(List.replicate n (D.t (.int .i64 0))).drop 1=List.replicate (n-1) (I 0):=List.drop_replicate ..
 have mn:min 1 n=1:=by omega
 have ar:∀H:ah,qH H 8 (List.replicate n (I v))=[]:=fun H=>by
  have e:List.replicate n (I v)=(List.replicate n (tI v)).map D.t:=by simp
  rw[e]
  unfold qH
  exact BX ..
 simp(disch:=omega)only[go_sem,K.bK,↓reduceIte,tL,List.map_cons,List.map_nil,m,w1,w2,w3,loop,dr,mn,ar,List.length_replicate,Nat.sub_zero,List.take_zero,List.nil_append,List.take_succ_cons,Nat.zero_add,reduceAdd,reduceSub]
end Go.Ev
namespace Go.Ev
open Go
variable [Lib] [cz] [bZ] [gV] [gW]
theorem Fb(a b lo hi:Int)(h1:lo≤a)(h2:a≤b)(h3:b≤hi):aH 0 N.gp [.t (.agg [tI a,tI b]),I lo,I hi] []=some (B true,[]):=by
 refine av K.ru rfl ?_
 simp(disch:=omega)only[go_sem,K.gp,↓reduceIte,reduceAdd,reduceSub]
theorem Fc{m:aP}(h:m.ok):aH 0 N.jc [.t m.e] []=some (I 0,[]):=by
 refine av K.sU rfl ?_
 have np:=h.np
 have nr:=h.nr
 have hs:=h.hs
 have rs:=h.rs
 obtain⟨aa,roads⟩:=m
 simp only at np nr hs rs
 have l1:∀z0 z2 z3 z4 z5 z9 z10 z11:D,exS aH K.wE ⟨[z0,.bp 0 0,z2,z3,z4,z5,.t (.sl (aa.map Place.e)),I aa.length,I 0,z9,z10,z11],[.box (ae ⟨aa,roads⟩)]⟩=
  some (.exit 0,⟨[.und,.bp 0 0,.und,.und,.und,.und,.t (.sl (aa.map Place.e)),I aa.length,I aa.length,.und,.und,.und],[.box (ae ⟨aa,roads⟩)]⟩):=by
  intro z0 z2 z3 z4 z5 z9 z10 z11
  refine dw (fun j=>⟨[.und,.bp 0 0,.und,.und,.und,.und,.t (.sl (aa.map Place.e)),I aa.length,I j,.und,.und,.und],[.box (ae ⟨aa,roads⟩)]⟩) aa.length rfl ?_ ?_ (by simp)
  · intro j hj
    have g:(aa.map Place.e)[j]?=some (nth aa j).e:=cI _ hj
    have q:=hs _ (af hj)
    generalize nth aa j=x at*
    obtain⟨hh,sf⟩:=x
    simp only[ae]at*
    simp(disch:=omega)only[go_sem,K.pz,↓reduceIte,g,reduceAdd,reduceSub]
  · simp(disch:=omega)only[go_sem,K.pz,↓reduceIte,ae,reduceAdd,reduceSub]
 have l2:∀z0 z1 z2 z3 z5 z6 z7 z8:D,exS aH K.wF ⟨[z0,z1,z2,z3,I aa.length,z5,z6,z7,z8,.t (.sl (roads.map Road.e)),I roads.length,I 0],[.box (ae ⟨aa,roads⟩)]⟩=
  some (.exit 2,⟨[.und,.und,.und,.und,I aa.length,.und,.und,.und,.und,.t (.sl (roads.map Road.e)),I roads.length,I roads.length],[.box (ae ⟨aa,roads⟩)]⟩):=by
  intro z0 z1 z2 z3 z5 z6 z7 z8
  refine dw (fun j=>⟨[.und,.und,.und,.und,I aa.length,.und,.und,.und,.und,.t (.sl (roads.map Road.e)),I roads.length,I j],[.box (ae ⟨aa,roads⟩)]⟩) roads.length rfl ?_ ?_ (by simp)
  · intro j hj
    have g:(roads.map Road.e)[j]?=some (nth roads j).e:=cI _ hj
    have q:=rs _ (af hj)
    generalize nth roads j=x at*
    have f0:=q.f0;have f1:=q.f1;have t0:=q.t0;have t1:=q.t1;have ne:=q.ne;have l0:=q.l0;have l1:=q.l1;have a0:=q.a0;have a1:=q.a1
    have r0:=q.r0;have r1:=q.r1;have r2:=q.r2;have i0:=q.i0;have i1:=q.i1;have i2:=q.i2
    clear q
    obtain⟨frm,to,len,area,walk,closed,rl,rh,ll,lh⟩:=x
    simp only[ae]at*
    have s1:=Fb rl rh 1 262144 r0 r1 r2
    have s2:=Fb ll lh (-2199023255552) 2199023255552 i0 i1 i2
    simp(disch:=omega)only[go_sem,K.pA,↓reduceIte,g,s1,s2,reduceAdd,reduceSub]
  · simp(disch:=omega)only[go_sem,K.pA,↓reduceIte,ae,reduceAdd,reduceSub]
 simp only[ae]at l1 l2
 simp(disch:=omega)only[go_sem,K.jc,↓reduceIte,l1,l2,reduceAdd,reduceSub]
theorem mY{m:aP}(h:m.ok):aH 0 N.et [.t m.e] []=some (B true,[]):=by
 refine av K.sT rfl ?_
 have c:=Fc h
 obtain⟨aa,roads⟩:=m
 simp(disch:=omega)only[go_sem,K.et,↓reduceIte,c,reduceAdd,reduceSub]
end Go.Ev
namespace Go.Ev.N
def Ke:Nat:=178
def Kf:Nat:=179
def KY:Nat:=180
def Kg:Nat:=181
def KZ:Nat:=182
def ML:Nat:=183
def K0:Nat:=184
def UY:Nat:=185
def iN:Nat:=186
def UZ:Nat:=187
def MM:Nat:=188
def gq:Nat:=189
def eB:Nat:=190
def RS:Nat:=191
def fY:Nat:=192
def cM:Nat:=193
def dR:Nat:=194
def U0:Nat:=195
def iH:Nat:=196
def aaN:Nat:=197
def dB:Nat:=198
def bL:Nat:=199
def dt:Nat:=200
def de:Nat:=201
def bc:Nat:=202
def cy:Nat:=203
def aG:Nat:=204
def bV:Nat:=205
def eO:Nat:=206
def eC:Nat:=207
def dC:Nat:=208
def bu:Nat:=209
def bW:Nat:=210
def kn:Nat:=211
def ko:Nat:=212
def fB:Nat:=213
def jd:Nat:=214
end Go.Ev.N
namespace Go.Ev.K
open Go.Ev
def iN:Fn:= { aU:=3,vars:=[0,1,2,3,6,7,8],body:=(q [w 3 (.bx v0 2),w 4 (.al [z0,.nil] []),x 5 (.i 0)] [] (.seq (.blk 0 (.ite [h 2 v3,u (.ca N.et 0 [] [.l 0]),u (.un .not l0),m l0] [] 0 (q [u (.bd [z0,.nil] []),u (.st v4 l0 2 []),x 5 (.i 6)] [] .ret) (.ite [m v1,f 0 v3,g l0,u (.ln l0),u (.bin .sub l0 (.i 1)),u (.ca N.cQ 0 [] [.l 4,.i 0,.l 0]),u (.un .not l0),m l0] [] 0 (q [u (.bd [z0,.nil] []),u (.st v4 l0 2 []),x 5 (.i 3)] [] .ret) (.ite [m v2,u (.ca N.cQ 0 [] [.l 0,.i 0,.i 2147483648]),u (.un .not l0),m l0] [] 0 (q [u (.bd [z0,.nil] []),u (.st v4 l0 2 []),x 5 (.i 8)] [] .ret) .skip)))) (q [h 2 v3,u (.ca N.dB 1 [] [.l 0]),x 6 l0] [] (q [m v6,m v1,m v2,a 1 l2 l1,u (.st l0 l1 1 [])] [] (q [m v2,h 2 v3,m v6,m v2,u (.ca N.bL 0 [] [.l 2,.l 1,.l 0,.c (.fn N.dt [])]),u (.bd [z0,.nil] [(0,1,.l 4),(1,1,.l 0)]),u (.st v4 l0 2 []),x 5 (.i 0)] [] .ret))))),res:=[(4,some (2,true)),(5,none)]}
def oB:C:= (.its [u (.bin .lss v11 v10)] [] 0 .skip (.exit 0) (.seq (.blk 1 (q [m v11,a 1 v9 v11,g l0,x 7 l2,x 8 l1] [] (.reg [f 1 v6,g l0,m v8,f 1 v3,g l0,m v7,a 1 l1 l0,g l0,u (.mn [.l 5,.l 0]),u (.bs [.l 0] 1),u (.app l8 l0 true 1),f 1 v6,u (.st l0 l1 1 [])] [(1,10)]))) (.reg [u (.bin .add v11 (.i 1)),x 11 l0] [])))
def uy:C:= .loop true [0,1,2,5,7,8] K.oB
def gq:Fn:= { aU:=2,vars:=[0,1,2,3,4,5,6,7,8,24,25,26],body:=(q [w 2 (.bx v0 2),w 3 (.bx v1 2),w 4 (.al [z0,.nil] []),x 5 (.i 0)] [] (.seq (.ite [f 1 v2,g l0,u (.ln l0),f 1 v3,g l0,u (.ln l0),u (.bin .neq l3 l0)] [] 0 (q [u (.bd [z0,.nil] []),u (.st v4 l0 2 []),x 5 (.i 6)] [] .ret) .skip) (q [f 0 v2,g l0,f 0 v3,g l0,u (.mx [.l 2,.l 0]),u (.bd [z0,.nil] [(0,1,.l 0)]),w 6 (.al [z0,.nil] [(1,1)]),u (.st l0 l1 2 [(1,1)])] [] (.seq (q [f 1 v2,w 9 (.ld l0 1 false),w 10 (.ln l0),x 11 (.i 0)] [] (.blk 0 K.uy)) (q [h 2 v6,u (.st v4 l0 2 []),x 5 (.i 0)] [] .ret))))),res:=[(4,some (2,true)),(5,none)]}
def eB:Fn:= { aU:=2,vars:=[0,1,2,3,4],body:=(q [w 2 (.bx v0 2),w 3 (.bx v1 2),x 4 (.b false)] [] (q [h 2 v2,u (.ca N.et 0 [] [.l 0]),m l0,y 0 true (.ld v2 2 true),y 1 true (.ld v3 2 true),y 2 true (.ca N.de 0 [] [.l 1,.l 0]),u (.pk l3 l0 (.b false)),m l0,y 0 true (.ld v2 2 true),y 1 true (.fa v3 1),i 2 true l0,y 3 true (.fa v3 0),i 4 true l0,y 5 true (.ca N.bL 0 [] [.l 4,.l 2,.l 0,.c (.fn N.dt [])]),y 6 true (.fa v3 1),i 7 true l0,y 8 true (.ca N.bc 0 [] [.l 2,.l 0]),u (.pk l9 l0 (.b false)),x 4 l0] [(15,6)] .ret)),res:=[(4,none)]}
def mP:C:= (.its [u (.bin .lss v15 v14)] [] 0 .skip (.exit 0) (.seq (.blk 1 (q [a 1 v13 v15,g l0,x 12 l0] [] (.ite [f 1 v6,g l0,m v12,a 1 l1 l0,g l0,m v4,u (.bin .leq l1 l0)] [] 0 (.reg [m v10,m v12,f 1 v6,g l0,m v12,a 1 l1 l0,g l0,a 1 l6 l5,u (.st l0 l1 1 []),x 11 (.b true)] []) .skip))) (.reg [u (.bin .add v15 (.i 1)),x 15 l0] [])))
def wG:C:= .loop true [0,1,2,8,9,12] K.mP
def fY:Fn:= { aU:=5,vars:=[0,1,2,3,4,5,6,10,11,12,13,14,16,34,35,36],body:=(q [w 5 (.bx v0 2),w 6 (.bx v1 2),w 7 (.al [z0,.nil] []),x 8 (.i 0)] [] (.seq (q [h 2 v5,h 2 v6,m v2,m v3,m v4,u (.ca N.cy 0 [] [.l 4,.l 3,.l 2,.l 1,.l 0]),x 9 l0] [] (.ite [m v9,u (.bin .neq l0 (.i 0))] [] 0 (q [h 2 v6,m v9,u (.st v7 l1 2 []),x 8 l1] [] .ret) .skip)) (.seq (.ite [m v3,f 0 v6,g l0,u (.bin .lss l2 l0)] [] 0 (q [h 2 v6,u (.st v7 l0 2 []),x 8 (.i 42)] [] .ret) .skip) (q [h 2 v5,u (.ca N.dB 1 [] [.l 0]),x 10 l0,x 11 (.b false)] [] (.seq (q [x 13 v2,w 14 (.ln l0),x 15 (.i 0)] [] (.blk 0 K.wG)) (.seq (.ite [m v11,u (.un .not l0)] [] 0 (q [h 2 v6,u (.st v7 l0 2 []),x 8 (.i 43)] [] .ret) .skip) (q [m v4,h 2 v5,m v10,m v3,u (.ca N.bL 0 [] [.l 2,.l 1,.l 0,.c (.fn N.dt [])]),u (.bd [z0,.nil] [(0,1,.l 4),(1,1,.l 0)]),u (.st v7 l0 2 []),x 8 (.i 0)] [] .ret))))))),res:=[(7,some (2,true)),(8,none)]}
end Go.Ev.K
namespace Go.Ev
class jC [Lib]:Prop where
 uz:Lib.fs N.iN=some K.iN
 rv:Lib.fs N.gq=some K.gq
 pB:Lib.fs N.eB=some K.eB
 sV:Lib.fs N.fY=some K.fY
namespace K
variable [Lib] [jC]
theorem uz:Lib.fs N.iN=some K.iN:=jC.uz
theorem rv:Lib.fs N.gq=some K.gq:=jC.rv
theorem pB:Lib.fs N.eB=some K.eB:=jC.pB
theorem sV:Lib.fs N.fY=some K.fY:=jC.sV
end K
end Go.Ev
namespace Go.Ev.K
open Go.Ev
def mF:C:= (.its [u (.bin .lss v16 v15)] [] 0 .skip (.exit 1) (.seq (.blk 2 (q [a 1 v14 v16,g l0,x 13 l0] [] (.reg [m v12,m v13,a 1 l1 l0,u (.st l0 (.i 1099511627776) 1 [])] []))) (.reg [u (.bin .add v16 (.i 1)),x 16 l0] [])))
def rQ:C:= .loop true [0,1,2,3,7,10,11,13] K.mF
def cM:Fn:= { aU:=6,vars:=[0,1,2,3,4,5,6,7,8,12,13,14,15,17,53,54,55],body:=(q [w 6 (.bx v0 2),w 7 (.bx v1 2),w 8 (.bx v2 1),w 9 (.al [z0,.nil] []),x 10 (.i 0)] [] (.seq (q [h 2 v6,h 2 v7,g v8,m v3,m v4,u (.ca N.cy 0 [] [.l 4,.l 3,.l 2,.l 1,.l 0]),x 11 l0] [] (.blk 0 (.ite [m v11,u (.bin .neq l0 (.i 0)),m l0] [] 0 (q [h 2 v7,m v11,u (.st v9 l1 2 []),x 10 l1] [] .ret) (.ite [m v5,u (.ca N.cQ 0 [] [.l 0,.i 0,.i 2147483648]),u (.un .not l0),m l0] [] 0 (q [h 2 v7,u (.st v9 l0 2 []),x 10 (.i 8)] [] .ret) (.ite [m v4,f 0 v7,g l0,u (.bin .lss l2 l0),m l0] [] 0 (q [h 2 v7,u (.st v9 l0 2 []),x 10 (.i 42)] [] .ret) (.ite [m v4,m v3,f 0 v7,g l0,u (.mx [.l 2,.l 0]),u (.bin .sub l4 l0),m v5,u (.bin .leq l1 l0),m l0] [] 0 (q [h 2 v7,u (.st v9 l0 2 []),x 10 (.i 0)] [] .ret) .skip)))))) (q [f 1 v7,g l0,u (.ca N.aG 1 [] [.l 0]),x 12 l0] [] (.seq (q [w 14 (.ld v8 1 false),w 15 (.ln l0),x 16 (.i 0)] [] (.blk 1 K.rQ)) (q [h 2 v6,m v12,m v4,m v5,u (.bin .sub l1 l0),u (.mf N.bV [.v 8]),u (.ca N.bL 1 [] [.l 5,.l 4,.l 1,.l 0]),x 12 l0] [] (q [m v4,h 2 v6,m v12,m v4,u (.ca N.bL 0 [] [.l 2,.l 1,.l 0,.c (.fn N.dt [])]),u (.bd [z0,.nil] [(0,1,.l 4),(1,1,.l 0)]),u (.st v9 l0 2 []),x 10 (.i 0)] [] .ret)))))),res:=[(9,some (2,true)),(10,none)]}
def dR:Fn:= { aU:=3,vars:=[0,1,2,3,4,6,7],body:=(q [w 3 (.bx v0 2),w 4 (.bx v1 2),w 5 (.al [z0,.nil] []),x 6 (.i 0)] [] (.seq (.ite [h 2 v3,u (.ca N.et 0 [] [.l 0]),u (.un .not l0),m l0,y 0 false (.ld v3 2 true),y 1 false (.ld v4 2 true),y 2 false (.ca N.de 0 [] [.l 1,.l 0]),y 3 false (.un .not l0),u (.pk l4 (.b true) l0)] [] 0 (q [h 2 v4,u (.st v5 l0 2 []),x 6 (.i 6)] [] .ret) .skip) (.seq (.ite [m v2,f 0 v4,g l0,u (.bin .lss l2 l0),m l0,e 0 false v2,y 1 false (.bin .gtr l0 (.i 2147483648)),u (.pk l2 (.b true) l0)] [] 0 (q [h 2 v4,u (.st v5 l0 2 []),x 6 (.i 8)] [] .ret) .skip) (q [m v2,h 2 v3,f 1 v4,g l0,m v2,u (.ca N.bL 0 [] [.l 3,.l 1,.l 0,.c (.fn N.dt [])]),u (.bd [z0,.nil] [(0,1,.l 5),(1,1,.l 0)]),u (.st v5 l0 2 []),x 6 (.i 0)] [] .ret)))),res:=[(5,some (2,true)),(6,none)]}
def iH:Fn:= { aU:=2,vars:=[0,1,2,3,4],body:=(q [w 2 (.bx v0 2),w 3 (.bx v1 2),x 4 (.b false)] [] (q [f 0 v2,g l0,f 0 v3,g l0,u (.bin .eql l2 l0),m l0,y 0 true (.fa v2 1),i 1 true l0,y 2 true (.fa v3 1),i 3 true l0,y 4 true (.ca N.b5 0 [] [.l 2,.l 0]),u (.pk l5 l0 (.b false)),x 4 l0] [] .ret)),res:=[(4,none)]}
def dB:Fn:= { aU:=1,vars:=[0,1,2],body:=(q [w 1 (.bx v0 2),w 2 (.mv (.c (.nil)))] [] (q [u (.bs [.i 1099511627776] 1),f 0 v1,g l0,u (.ln l0),u (.ca N.bK 1 [] [.l 3,.l 0]),x 2 l0] [] .ret)),res:=[(2,none)]}
def dn:C:= (.seq (.ite [g v9] [] 0 .skip (.exit 0)) (.seq (.blk 1 (q [u (.st v9 (.b false) 1 [])] [] (.reg [h 2 v4,g v8,u (.mf N.bu [.v 5,.v 8,.v 6,.v 9]),u (.ca N.dC 0 [1] [.l 2,.l 1,.l 0])] []))) (q [w 10 (.ld v9 1 false)] [] (.reg [w 9 (.al [z1] []),u (.st l0 v10 1 [])] []))))
def mG:C:= .loop false [0,1,2,3,7,10] K.dn
def bL:Fn:= { aU:=4,vars:=[0,1,2,3,4,6,7,8,9,10,18],body:=(q [w 4 (.bx v0 2),w 5 (.bx v2 1),w 6 (.bx v3 1),w 7 (.mv (.c (.nil)))] [] (q [m v1,u (.ca N.aG 1 [] [.l 0]),w 8 (.al [.nil] []),u (.st l0 l1 1 [])] [] (.seq (q [w 9 (.al [z1] []),u (.st l0 (.b true) 1 [])] [] (.blk 0 K.mG)) (q [g v8,x 7 l0] [] .ret)))),res:=[(7,none)]}
def dt:Fn:= { aU:=1,vars:=[2],body:=(q [x 0 (.b false)] [] (q [x 0 (.b true)] [] .ret)),res:=[(0,none)]}
def de:Fn:= { aU:=2,vars:=[0,1,2,3,4],body:=(q [w 2 (.bx v0 2),w 3 (.bx v1 2),x 4 (.b false)] [] (q [f 1 v3,g l0,u (.ln l0),f 0 v2,g l0,u (.ln l0),u (.bin .eql l3 l0),m l0,y 0 true (.fa v3 0),i 1 true l0,y 2 true (.ca N.cQ 0 [] [.l 0,.i 0,.i 2147483648]),u (.pk l3 l0 (.b false)),m l0,y 0 true (.fa v3 1),i 1 true l0,y 2 true (.ca N.aJ 0 [] [.l 0,.c (.fn N.bW [])]),y 3 true (.un .not l0),u (.pk l4 l0 (.b false)),x 4 l0] [] .ret)),res:=[(4,none)]}
def fI:C:= (.its [u (.bin .lss v5 v4)] [] 0 .skip (.exit 0) (.seq (.blk 1 (q [m v5,x 3 l0] [] (.ite [m v0,m v3,a 1 l1 l0,g l0,m v1,m v3,a 1 l1 l0,g l0,u (.bin .neq l4 l0)] [] 0 (q [x 2 (.b false)] [] .ret) .skip))) (.reg [u (.bin .add v5 (.i 1)),x 5 l0] [])))
def lT:C:= .loop true [2,3] K.fI
def bc:Fn:= { aU:=2,vars:=[0,1,4,5,12,13],body:=(q [x 2 (.b false)] [] (.seq (.ite [m v0,u (.ln l0),m v1,u (.ln l0),u (.bin .neq l2 l0)] [] 0 (q [x 2 (.b false)] [] .ret) .skip) (.seq (q [m v0,w 4 (.ln l0),x 5 (.i 0)] [] (.blk 0 K.lT)) (q [x 2 (.b true)] [] .ret)))),res:=[(2,none)]}
def cy:Fn:= { aU:=5,vars:=[0,1,2,3,4,5,6,10],body:=(q [w 5 (.bx v0 2),w 6 (.bx v1 2),x 7 (.i 0)] [] (.seq (.blk 0 (.ite [h 2 v5,h 2 v6,u (.ca N.eB 0 [] [.l 1,.l 0]),u (.un .not l0),m l0,e 0 false v2,y 1 false (.ln l0),y 2 false (.bin .eql l0 (.i 0)),u (.pk l3 (.b true) l0),m l0,e 0 false v2,y 1 false (.fa v5 0),i 2 false l0,y 3 false (.ln l0),y 4 false (.bin .sub l0 (.i 1)),y 5 false (.ca N.fy 0 [] [.l 4,.i 0,.l 0]),y 6 false (.un .not l0),u (.pk l7 (.b true) l0),m l0] [] 0 (q [x 7 (.i 6)] [] .ret) (.ite [m v3,u (.ca N.cQ 0 [] [.l 0,.i 0,.i 2147483648]),u (.un .not l0),m l0,e 0 false v4,y 1 false (.ca N.cQ 0 [] [.l 0,.i 0,.i 2147483648]),y 2 false (.un .not l0),u (.pk l3 (.b true) l0),m l0,e 0 false v3,e 1 false v4,y 2 false (.bin .gtr l1 l0),u (.pk l3 (.b true) l0),m l0] [] 0 (q [x 7 (.i 8)] [] .ret) .skip))) (q [x 7 (.i 0)] [] .ret))),res:=[(7,none)]}
def aG:Fn:= { aU:=1,vars:=[0,2],body:=(q [w 1 (.mv (.c (.nil)))] [] (.itk [m v0,u (.eqk (.sl) false l0 (.c (.nil)))] [] 0 (q [w 1 (.nw 1)] [] .ret) .skip (q [u (.bsr [] 1),m v0,u (.app l1 l0 false 1),x 1 l0] [] .ret))),res:=[(1,none)]}
def bV:Fn:= { aU:=2,vars:=[0,1,3],body:=(q [x 2 (.b false)] [] (q [g v1,m v0,u (.ca N.aZ 0 [] [.l 1,.l 0]),x 2 l0] [] .ret)),res:=[(2,none)]}
def eO:Fn:= { aU:=3,vars:=[0,1,2,3,4,6,7],body:=(q [w 3 (.bx v0 2),w 4 (.bx v1 2),w 5 (.al [z0,.nil] []),x 6 (.i 0)] [] (.seq (.ite [h 2 v3,u (.ca N.dj 0 [] [.l 0]),u (.bin .neq l0 (.i 0)),m l0,y 0 false (.ld v4 2 true),y 1 false (.fa v3 0),i 2 false l0,y 3 false (.ln l0),y 4 false (.ca N.dG 0 [] [.l 3,.l 0]),y 5 false (.un .not l0),u (.pk l6 (.b true) l0)] [] 0 (q [h 2 v4,u (.ca N.b9 0 [] [.l 0]),u (.st v5 l0 2 []),x 6 (.i 6)] [] .ret) .skip) (.seq (.ite [m v2,f 0 v4,g l0,u (.bin .lss l2 l0),m l0,e 0 false v2,y 1 false (.bin .gtr l0 (.i 2147483648)),u (.pk l2 (.b true) l0)] [] 0 (q [h 2 v4,u (.ca N.b9 0 [] [.l 0]),u (.st v5 l0 2 []),x 6 (.i 8)] [] .ret) .skip) (q [m v2,h 2 v3,f 1 v4,g l0,m v2,u (.ca N.eb 0 [] [.l 3,.l 1,.l 0]),u (.bd [z0,.nil] [(0,1,.l 5),(1,1,.l 0)]),u (.st v5 l0 2 []),x 6 (.i 0)] [] .ret)))),res:=[(5,some (2,true)),(6,none)]}
def eC:Fn:= { aU:=2,vars:=[0,1,2,4,5],body:=(q [w 2 (.bx v0 2),w 3 (.al [z0,.nil] []),x 4 (.i 0)] [] (.seq (.ite [m v1,f 0 v2,g l0,u (.bin .lss l2 l0),m l0,e 0 false v1,y 1 false (.bin .gtr l0 (.i 2147483648)),u (.pk l2 (.b true) l0)] [] 0 (q [h 2 v2,u (.st v3 l0 2 []),x 4 (.i 8)] [] .ret) .skip) (q [m v1,f 1 v2,g l0,u (.ca N.aG 0 [] [.l 0]),u (.bd [z0,.nil] [(0,1,.l 3),(1,1,.l 0)]),u (.st v3 l0 2 []),x 4 (.i 0)] [] .ret))),res:=[(3,some (2,true)),(4,none)]}
def eQ:C:= (.its [u (.bin .lss v14 (.i 2))] [] 0 .skip (.exit 2) (.seq (.blk 3 (q [u (.ix v13 v14 2 1 false),x 6 l0] [] (q [f 0 v5,g l0,f 1 v5,g l0,x 7 l2,x 8 l1] [] (.seq (.ite [m v6] [] 0 (.reg [m v8,m v7,x 7 l1,x 8 l1] []) .skip) (q [h 2 v3,m v4,m v6,u (.ca N.kn 0 [] [.l 2,.l 1,.l 0]),x 9 l0] [] (.ite [m v9,u (.bin .geq l0 (.i 0)),m l0,e 0 true v1,e 1 true v7,y 2 true (.ia l1 l0 1),i 3 true l0,y 4 true (.bin .lss l0 (.i 1099511627776)),u (.pk l5 l0 (.b false))] [] 0 (.reg [m v2,m v7,m v8,m v1,m v7,a 1 l1 l0,g l0,m v9,u (.bin .add l1 l0),u (.cw l8 0 [] [.l 7,.l 6,.l 0])] []) .skip)))))) (.reg [u (.bin .add v14 (.i 1)),x 14 l0] [])))
def oZ:C:= .loop true [0,6,7,8,9] K.eQ
def iS:C:= (.its [u (.bin .lss v12 v11)] [] 0 .skip (.exit 0) (.seq (.blk 1 (q [m v12,a 10 v10 v12,h 10 l0,w 5 (.al [z0,z0,z0,z0,z1,z1,z0,z0,z0,z0] []),x 4 l3,u (.st l1 l2 10 [])] [] (q [w 13 (.bd [z1,z1] [(0,1,.b false),(1,1,.b true)]),x 14 (.i 0)] [] (.blk 2 K.oZ)))) (.reg [u (.bin .add v12 (.i 1)),x 12 l0] [])))
def o4:C:= .loop true [0,4,5,6,7,8,9,13,14] K.iS
def dC:Fn:= { aU:=3,vars:=[0,1,2,3,6,7,9,10,11,12,14,15,16,21,22],body:=(q [w 3 (.bx v0 2)] [] (q [f 1 v3,w 10 (.ld l0 1 false),w 11 (.ln l0),x 12 (.i 0)] [] (.blk 0 K.o4))),res:=[]}
def bu:Fn:= { aU:=7,vars:=[1,2,3,4,5,6],body:=(q [m v1,g v2,u (.mx [.l 1,.l 0]),x 1 l0] [] (.ite [m v1,u (.bin .leq l0 (.i 2147483648)),m l0,e 0 true v1,i 1 true v3,e 2 true v0,y 3 true (.ia l1 l0 1),i 4 true l0,y 5 true (.bin .lss l4 l0),u (.pk l6 l0 (.b false)),m l0,i 0 true v4,e 1 true v0,y 2 true (.cw l1 0 [] [.l 0]),u (.pk l3 l0 (.b false))] [] 0 (.reg [g v3,m v0,m v1,a 1 l2 l1,u (.st l0 l1 1 []),u (.st v5 (.b true) 1 [])] []) .skip)),res:=[]}
def bW:Fn:= { aU:=1,vars:=[0,2],body:=(q [x 1 (.b false)] [] (q [m v0,u (.bin .neq l0 (.i 1099511627776)),m l0,e 0 true v0,y 1 true (.ca N.cQ 0 [] [.l 0,.i 0,.i 2147483648]),y 2 true (.un .not l0),u (.pk l3 l0 (.b false)),x 1 l0] [] .ret)),res:=[(1,none)]}
def kn:Fn:= { aU:=3,vars:=[0,1,2,3,6],body:=(q [w 3 (.bx v0 2),x 4 (.i 0)] [] (.seq (.ite [h 2 v3,u (.ca N.et 0 [] [.l 0]),u (.un .not l0),m l0,e 0 false v1,y 1 false (.bin .lss l0 (.i 0)),u (.pk l2 (.b true) l0),m l0,e 0 false v1,y 1 false (.fa v3 1),i 2 false l0,y 3 false (.ln l0),y 4 false (.bin .geq l3 l0),u (.pk l5 (.b true) l0)] [] 0 (q [w 4 (.mv (.i (-1)))] [] .ret) .skip) (q [h 2 v3,m v1,m v2,u (.ca N.ko 0 [] [.l 2,.l 1,.l 0]),x 4 l0] [] .ret))),res:=[(4,none)]}
def ko:Fn:= { aU:=3,vars:=[0,1,2,3,6],body:=(q [w 3 (.bx v0 2),x 4 (.i 0)] [] (q [h 2 v3,m v1,m v2,u (.ca N.jd 0 [] []),u (.ca N.fB 0 [] [.l 3,.l 2,.l 1,.l 0]),x 4 l0] [(0,4)] .ret)),res:=[(4,none)]}
def fB:Fn:= { aU:=4,vars:=[0,1,2,3,4,7,8,9,10,11],body:=(q [w 4 (.bx v0 2),w 5 (.bx v3 3),x 6 (.i 0)] [] (q [f 1 v4,g l0,m v1,a 10 l1 l0,h 10 l0,w 7 (.al [z0,z0,z0,z0,z1,z1,z0,z0,z0,z0] []),u (.st l0 l1 10 [])] [] (.seq (.ite [f 5 v7,g l0,m l0,y 0 false (.fa v7 4),i 1 false l0,y 2 false (.un .not l0),u (.pk l3 (.b true) l0)] [] 0 (q [w 6 (.mv (.i (-1)))] [] .ret) .skip) (q [f 0 v4,g l0,f 1 v7,g l0,a 2 l2 l0,f 0 l0,g l0,f 0 v4,g l0,f 0 v7,g l0,a 2 l2 l0,f 0 l0,g l0,u (.bin .sub l7 l0),x 8 l0] [] (.seq (.ite [m v2] [] 0 (.reg [m v8,u (.un .neg l0),x 8 l0] []) .skip) (q [f 2 v5,g l0,x 9 l0] [] (.seq (.blk 0 (.ite [m v8,u (.bin .mul (.i 10) l0),f 2 v7,g l0,u (.bin .gtr l2 l0),m l0] [] 0 (.reg [f 0 v5,g l0,x 9 l0] []) (.ite [m v8,u (.bin .mul (.i (-10)) l0),f 2 v7,g l0,u (.bin .gtr l2 l0),m l0] [] 0 (.reg [f 1 v5,g l0,x 9 l0] []) .skip))) (q [f 2 v7,g l0,u (.bin .mul (.i 10) l0),m v9,u (.bin .add l1 l0),u (.bin .sub l0 (.i 1)),m v9,u (.bin .quo l1 l0),x 6 l0] [] .ret)))))))),res:=[(6,none)]}
def jd:Fn:= { aU:=0,vars:=[0],body:=(q [w 0 (.al [z0,z0,z0] [])] [] (q [u (.bd [z0,z0,z0] [(0,1,.i 6),(1,1,.i 9),(2,1,.i 12)]),u (.st v0 l0 3 [])] [] .ret)),res:=[(0,some (3,true))]}
end Go.Ev.K
namespace Go.Ev
class gX [Lib]:Prop where
 oC:Lib.fs N.cM=some K.cM
 pC:Lib.fs N.dR=some K.dR
 sW:Lib.fs N.iH=some K.iH
 nC:Lib.fs N.dB=some K.dB
 kC:Lib.fs N.bL=some K.bL
 sX:Lib.fs N.dt=some K.dt
 oD:Lib.fs N.de=some K.de
 jk:Lib.fs N.bc=some K.bc
 pD:Lib.fs N.cy=some K.cy
 gw:Lib.fs N.aG=some K.aG
 mH:Lib.fs N.bV=some K.bV
 rz:Lib.fs N.eO=some K.eO
 pE:Lib.fs N.eC=some K.eC
 mI:Lib.fs N.dC=some K.dC
 lU:Lib.fs N.bu=some K.bu
 mJ:Lib.fs N.bW=some K.bW
 vf:Lib.fs N.kn=some K.kn
 vg:Lib.fs N.ko=some K.ko
 vh:Lib.fs N.fB=some K.fB
 sY:Lib.fs N.jd=some K.jd
namespace K
variable [Lib] [gX]
theorem oC:Lib.fs N.cM=some K.cM:=gX.oC
theorem pC:Lib.fs N.dR=some K.dR:=gX.pC
theorem sW:Lib.fs N.iH=some K.iH:=gX.sW
theorem nC:Lib.fs N.dB=some K.dB:=gX.nC
theorem kC:Lib.fs N.bL=some K.bL:=gX.kC
theorem sX:Lib.fs N.dt=some K.dt:=gX.sX
theorem oD:Lib.fs N.de=some K.de:=gX.oD
theorem jk:Lib.fs N.bc=some K.bc:=gX.jk
theorem pD:Lib.fs N.cy=some K.cy:=gX.pD
theorem gw:Lib.fs N.aG=some K.aG:=gX.gw
theorem mH:Lib.fs N.bV=some K.bV:=gX.mH
theorem rz:Lib.fs N.eO=some K.eO:=gX.rz
theorem pE:Lib.fs N.eC=some K.eC:=gX.pE
theorem mI:Lib.fs N.dC=some K.dC:=gX.mI
theorem lU:Lib.fs N.bu=some K.bu:=gX.lU
theorem mJ:Lib.fs N.bW=some K.bW:=gX.mJ
theorem vf:Lib.fs N.kn=some K.kn:=gX.vf
theorem vg:Lib.fs N.ko=some K.ko:=gX.vg
theorem vh:Lib.fs N.fB=some K.fB:=gX.vh
theorem sY:Lib.fs N.jd=some K.jd:=gX.sY
end K
end Go.Ev
namespace Go.Ev
open Go
variable [Lib] [cz] [bZ] [gV] [gW] [jC] [gX]
abbrev A3(l:List Int):Obj:= .arr 1 false 0 ((l.map (T.int .i64)).map .t)
theorem MN(l:List Int)(hl:l.length≤1000000):aH 0 N.aG [.t (tL l)] []=some (.t (tL l),[]):=by
 refine av K.gw rfl ?_
 by_cases h0:l=[]
 · subst h0
   simp only[tL,List.map_nil]
   simp(disch:=omega)only[go_sem,K.aG,↓reduceIte,List.map_nil,reduceAdd,reduceSub]
 · have e:=fun H=>ze H (l.map (T.int .i64)) (by simpa using h0)
   simp(disch:=omega)only[go_sem,K.aG,↓reduceIte,e,reduceAdd,reduceSub]
theorem wH(l:List Int)(hl:l.length≤1000000):aH 1 N.aG [.t (tL l)] []=some (.ref 0 0 l.length,[A3 l]):=by
 refine av K.gw rfl ?_
 by_cases h0:l=[]
 · subst h0
   simp only[tL,List.map_nil]
   simp(disch:=omega)only[go_sem,K.aG,↓reduceIte,List.map_nil,List.length_nil,reduceAdd,reduceSub]
   rfl
 · have e:=fun H=>ze H (l.map (T.int .i64)) (by simpa using h0)
   simp(disch:=omega)only[go_sem,K.aG,↓reduceIte,e,reduceAdd,reduceSub]
theorem zt(a b:List Int)(hl:a.length≤4294967296)(hl2:b.length≤4294967296):aH 0 N.bc [.t (tL a),.t (tL b)] []=some (B (decide (a=b)),[]):=by
 refine av K.jk rfl ?_
 by_cases hlen:a.length=b.length
 · have loop:∀z2 z3:D,exS aH K.lT ⟨[.t (tL a),.t (tL b),z2,z3,I a.length,I 0],[]⟩=
    some (match (List.range a.length).find? (fun j=>decide (nth a j≠nth b j))with
     | some j=>(.ret,⟨[.t (tL a),.t (tL b),B false,I j,I a.length,I j],[]⟩)
     | none=>(.exit 0,⟨[.t (tL a),.t (tL b),.und,.und,I a.length,I a.length],[]⟩)):=by
    intro z2 z3
    refine cP (fun j=>⟨[.t (tL a),.t (tL b),.und,.und,I a.length,I j],[]⟩) a.length (fun j=>decide (nth a j≠nth b j)) _ _ rfl ?_ ?_ ?_ (by simp)
    · intro j hj hp
      have hp:nth a j=nth b j:=by simpa using hp
      simp(disch:=omega)only[go_sem,K.fI,↓reduceIte,reduceAdd,reduceSub]
    · intro j hj hp
      have hp:nth a j≠nth b j:=by simpa using hp
      simp(disch:=omega)only[go_sem,K.fI,↓reduceIte,reduceAdd,reduceSub]
      simp
    · simp(disch:=omega)only[go_sem,K.fI,↓reduceIte,reduceAdd,reduceSub]
   have e:(a=b)↔(List.range a.length).find? (fun j=>decide (nth a j≠nth b j))=none:=by
    rw[List.find?_eq_none]
    constructor
    · intro h j _;simp[h]
    · intro h
      apply List.ext_getElem?
      intro j
      by_cases hj:j<a.length
      · rw[ff hj,ff (by omega)]
        have:=h j (aLu.2 hj)
        simpa using this
      · rw[aLm (by omega),aLm (by omega)]
   cases hf:(List.range a.length).find? (fun j=>decide (nth a j≠nth b j))with
   | some j=>
     rw[hf]at e loop
     have e:¬a=b:=fun h=>by have:=e.1 h;cases this
     simp(disch:=omega)only[go_sem,K.bc,↓reduceIte,loop,e,decide_false,reduceAdd,reduceSub]
   | none=>
     rw[hf]at e loop
     have e:a=b:=e.2 rfl
     simp(disch:=omega)only[go_sem,K.bc,↓reduceIte,loop,decide_eq_true e,reduceAdd,reduceSub]
 · have hne:a≠b:=fun h=>hlen (by rw[h])
   simp(disch:=omega)only[go_sem,K.bc,↓reduceIte,hne,decide_false,reduceAdd,reduceSub]
theorem PV:aH 0 N.jd [] []=some (.t (.agg [tI 6,tI 9,tI 12]),[]):=by
 refine av K.sY rfl ?_
 simp(disch:=omega)only[go_sem,K.jd,↓reduceIte,reduceAdd,reduceSub]
theorem U1{m:aP}(h:m.ok)(k:Nat)(hk:k<m.roads.length)(back:Bool)(up down level:Int)(hu:1≤up)(hu2:up≤100)(hd:1≤down)(hd2:down≤100)(hl:1≤level)(hl2:level≤100):
 aH 0 N.fB [.t m.e,I k,B back,.t (.agg [tI up,tI down,tI level])] []=some (I (ir m k back up down level),[]):=by
 refine av K.vh rfl ?_
 have nr:=h.nr
 have np:=h.np
 obtain⟨f0,f1,t0,t1, -,l0,l1, -, -, -, -, -, -, -, -⟩:=h.rs _ (af hk)
 have b1:=h.hs _ (af (l:=m.aa) (j:=(nth m.roads k).frm.toNat) (by omega))
 have b2:=h.hs _ (af (l:=m.aa) (j:=(nth m.roads k).to.toNat) (by omega))
 have g:(m.roads.map Road.e)[k]?=some (nth m.roads k).e:=cI _ hk
 have p1:(m.aa.map Place.e)[(nth m.roads k).frm.toNat]?=some (nth m.aa (nth m.roads k).frm.toNat).e:=cI _ (by omega)
 have p2:(m.aa.map Place.e)[(nth m.roads k).to.toNat]?=some (nth m.aa (nth m.roads k).to.toNat).e:=cI _ (by omega)
 have key:∀h1 h2:Int, -10000≤h1→h1≤10000→ -10000≤h2→h2≤10000→IntKind.i64.wrap (h1-h2)=h1-h2∧IntKind.i64.wrap (-(h1-h2))=h2-h1:=fun h1 h2 _ _ _ _=>⟨xq (by omega) (by omega),by rw[xq (by omega) (by omega)];omega⟩
 unfold ir
 generalize nth m.roads k=x at*
 obtain⟨frm,to,len,area,walk,closed,rl,rh,ll,lh⟩:=x
 simp only at f0 f1 t0 t1 l0 l1 b1 b2 p1 p2 ⊢
 cases closed with
 | true=>
   obtain⟨aa,roads⟩:=m
   simp(disch:=omega)only[go_sem,K.fB,↓reduceIte,g,reduceAdd,reduceSub]
 | false=>
   cases walk with
   | false=>
     obtain⟨aa,roads⟩:=m
     simp(disch:=omega)only[go_sem,K.fB,↓reduceIte,g,reduceAdd,reduceSub]
   | true=>
     have g1:=uY (a:=10*len+up-1) (b:=up) (by omega) hu
     have g2:=uY (a:=10*len+down-1) (b:=down) (by omega) hd
     have g3:=uY (a:=10*len+level-1) (b:=level) (by omega) hl
     cases back with
     | true=>
       simp only[↓reduceIte]
       generalize nth m.aa frm.toNat=q1 at*
       generalize nth m.aa to.toNat=q2 at*
       obtain⟨h1,s1⟩:=q1
       obtain⟨h2,s2⟩:=q2
       obtain⟨aa,roads⟩:=m
       simp only at*
       obtain⟨w2,w3⟩:=key h2 h1 (by omega) (by omega) (by omega) (by omega)
       by_cases c2:len< -10*(h1-h2)
       · simp(disch:=omega)only[go_sem,K.fB,↓reduceIte,g,p1,p2,w2,w3,gt_iff_lt,Int.zero_sub,reduceAdd,reduceSub]
       · by_cases c1:len<10*(h1-h2)
         · simp(disch:=omega)only[go_sem,K.fB,↓reduceIte,g,p1,p2,w2,w3,gt_iff_lt,Int.zero_sub,reduceAdd,reduceSub]
         · simp(disch:=omega)only[go_sem,K.fB,↓reduceIte,g,p1,p2,w2,w3,gt_iff_lt,Int.zero_sub,reduceAdd,reduceSub]
     | false=>
       simp only[aLt,↓reduceIte]
       generalize nth m.aa frm.toNat=q1 at*
       generalize nth m.aa to.toNat=q2 at*
       obtain⟨h1,s1⟩:=q1
       obtain⟨h2,s2⟩:=q2
       obtain⟨aa,roads⟩:=m
       simp only at*
       obtain⟨w2,w3⟩:=key h2 h1 (by omega) (by omega) (by omega) (by omega)
       by_cases c2:len< -10*(h2-h1)
       · simp(disch:=omega)only[go_sem,K.fB,↓reduceIte,g,p1,p2,w2,gt_iff_lt,reduceAdd,reduceSub]
       · by_cases c1:len<10*(h2-h1)
         · simp(disch:=omega)only[go_sem,K.fB,↓reduceIte,g,p1,p2,w2,gt_iff_lt,reduceAdd,reduceSub]
         · simp(disch:=omega)only[go_sem,K.fB,↓reduceIte,g,p1,p2,w2,gt_iff_lt,reduceAdd,reduceSub]
theorem PW{m:aP}(h:m.ok)(k:Nat)(hk:k<m.roads.length)(back:Bool):aH 0 N.kn [.t m.e,I k,B back] []=some (I (ir m k back 6 9 12),[]):=by
 have q:=PV
 have w:=U1 h k hk back 6 9 12 (by omega) (by omega) (by omega) (by omega) (by omega) (by omega)
 have v:=mY h
 have nr:=h.nr
 have s:aH 0 N.ko [.t m.e,I k,B back] []=some (I (ir m k back 6 9 12),[]):=by
  refine av K.vg rfl ?_
  generalize ir m k back 6 9 12=r at*
  obtain⟨aa,roads⟩:=m
  simp(disch:=omega)only[go_sem,K.ko,↓reduceIte,q,w,reduceAdd,reduceSub]
 refine av K.vf rfl ?_
 generalize ir m k back 6 9 12=r at*
 obtain⟨aa,roads⟩:=m
 simp only at*
 simp(disch:=omega)only[go_sem,K.kn,↓reduceIte,v,s,reduceAdd,reduceSub]
theorem U2(q:Int):aH 0 N.dt [I q] []=some (B true,[]):=by
 refine av K.sX rfl ?_
 simp(disch:=omega)only[go_sem,K.dt,↓reduceIte,reduceAdd,reduceSub]
theorem PX(q:Int)(l:List Int)(hl:l.length≤4294967296):aH 0 N.bV [I q,.bp 0 0] [.box [.t (tL l)]]=some (B (decide (q∈l)),[.box [.t (tL l)]]):=by
 refine av K.mH rfl ?_
 have c:=q7 l q hl
 simp(disch:=omega)only[go_sem,K.bV,↓reduceIte,c,reduceAdd,reduceSub]
theorem Hh{m:aP}(h:m.ok)(h1:1≤m.aa.length):aH 1 N.dB [.t m.e] []=some (.ref 0 0 m.aa.length,[.arr 1 false 0 (((jy m.aa.length).map (T.int .i64)).map .t)]):=by
 refine av K.nC rfl ?_
 have np:=h.np
 have r:=MK 1099511627776 m.aa.length h1 (by omega)
 have e:List.replicate m.aa.length (I 1099511627776)=((jy m.aa.length).map (T.int .i64)).map D.t:=by simp[jy]
 rw[e]at r
 simp only[tL,List.map_cons,List.map_nil]at r
 obtain⟨aa,roads⟩:=m
 simp only at*
 generalize jy aa.length=nl at*
 simp(disch:=omega)only[go_sem,K.dB,↓reduceIte,r,reduceAdd,reduceSub]
end Go.Ev
namespace Go.Ev.K
open Go.Ev
def cV:Fn:= { aU:=2,vars:=[0,1,2,3,4],body:=(q [w 2 (.bx v0 2),w 3 (.bx v1 1),w 4 (.mv (.c (.nil)))] [] (q [f 1 v2,g l0,u (.ln l0),u (.mf N.bT [.v 2,.v 3]),u (.ca N.eM 0 [] [.l 1,.l 0]),x 4 l0] [] .ret)),res:=[(4,none)]}
def bT:Fn:= { aU:=3,vars:=[0,1,2,4],body:=(q [x 3 (.b false)] [] (q [f 1 v1,g l0,m v0,a 1 l1 l0,g l0,g v2,u (.bin .leq l1 l0),x 3 l0] [] .ret)),res:=[(3,none)]}
end Go.Ev.K
namespace Go.Ev
class kG [Lib]:Prop where
 mK:Lib.fs N.cV=some K.cV
 kH:Lib.fs N.bT=some K.bT
namespace K
variable [Lib] [kG]
theorem mK:Lib.fs N.cV=some K.cV:=kG.mK
theorem kH:Lib.fs N.bT=some K.bT:=kG.kH
end K
end Go.Ev
namespace Go.Ev.N
def On:Nat:=215
def Oo:Nat:=216
def Oq:Nat:=217
def U3:Nat:=218
def U4:Nat:=219
def U5:Nat:=220
def XO:Nat:=221
def XP:Nat:=222
def XQ:Nat:=223
def aaO:Nat:=224
def U6:Nat:=225
def U7:Nat:=226
def U8:Nat:=227
def aaP:Nat:=228
def U9:Nat:=229
def Va:Nat:=230
def XR:Nat:=231
def RT:Nat:=232
def XT:Nat:=233
def RU:Nat:=234
def RV:Nat:=235
def RW:Nat:=236
def XU:Nat:=237
def RX:Nat:=238
def aaQ:Nat:=239
def aaR:Nat:=240
def Hi:Nat:=241
def XV:Nat:=242
def Vb:Nat:=243
def Ot:Nat:=244
end Go.Ev.N
namespace Go.Ev.K
open Go.Ev
end Go.Ev.K
namespace Go.Ev
class fT [Lib]:Prop where
namespace K
variable [Lib] [fT]
end K
end Go.Ev
namespace Go.Ev
open Go
variable [Lib] [cz] [bZ] [gU] [gJ] [kG] [gV] [gW] [jC] [gX] [fT]
end Go.Ev
namespace Go.Ev
open Go
theorem Hj{d:D}{n:Int}(h:HY d=some n):d= .t (.int .i64 n):=by
 unfold HY at h
 split at h
 · cases h;rfl
 · cases h
theorem MO:∀ {es:List D} {l:List Int},bf HY es=some l→es=l.map fun x=> .t (.int .i64 x)
 | [],l,h=>by simp[bf]at h;subst h;rfl
 | e::r,l,h=>by
   simp only[bf,aLa,aLb]at h
   obtain⟨x,hx,y,hy,rfl⟩:=h
   rw[Hj hx,MO hy];rfl
theorem As(x:Int):∀l,(Sf x l).Perm (x::l)
 | []=> .refl _
 | y::r=>by
   unfold Sf
   split
   · exact .refl _
   · exact((As x r).cons y).trans (.swap x y r)
theorem kX:∀l,(jO l).Perm l
 | []=> .refl _
 | x::r=>(As x _).trans ((kX r).cons x)
theorem MP{x:Int}:∀ {l:List Int},l.Pairwise (· ≤ ·)→(Sf x l).Pairwise (· ≤ ·)
 | [],_=>by simp[Sf]
 | y::r,h=>by
   unfold Sf
   split
   · rename_i hx
     refine List.pairwise_cons.2 ⟨fun z hz=>?_,h⟩
     rcases List.mem_cons.1 hz with rfl | hz
     · exact hx
     · have:=(List.pairwise_cons.1 h).1 z hz;omega
   · rename_i hx
     have h':=List.pairwise_cons.1 h
     refine List.pairwise_cons.2 ⟨fun z hz=>?_,MP h'.2⟩
     have hz:=(As x r).mem_iff.1 hz
     rcases List.mem_cons.1 hz with rfl | hz
     · omega
     · exact h'.1 z hz
theorem wI:∀l,(jO l).Pairwise (· ≤ ·)
 | []=> .nil
 | x::r=>MP (wI r)
theorem mZ(l:List Int):(jO l).length=l.length:=(kX l).length_eq
theorem IY(l:List Int):(l.mergeSort fun x y=>decide (x≤y))=jO l:=by
 refine List.Perm.eq_of_pairwise (le:=(· ≤ ·)) (fun a b _ _ h1 h2=>by omega) ?_ (wI l) ((List.mergeSort_perm _ _).trans (kX l).symm)
 have:=List.pairwise_mergeSort (le:=fun x y:Int=>decide (x≤y)) (fun a b c=>by simp;omega) (fun a b=>by simp;omega) l
 exact this.imp (by simp)
end Go.Ev
namespace Go.Ev
open Go
variable [Lib] [cz] [bZ] [gU] [gJ] [kG] [gV] [gW] [jC] [gX] [fT]
section
variable (k : Keys) (hl : k.keys.length ≤ 1000000) (hr : k.roads.length ≤ 1000000)
include hl hr
end
end Go.Ev
namespace Go.Ev
open Go
variable [Lib] [cz] [bZ] [gU] [gJ] [kG] [gV] [gW] [jC] [gX] [fT]
theorem agd{a b:List Int}(ha:a.Pairwise (· ≤ ·))(hb:b.Pairwise (· ≤ ·))(p:a.Perm b):a=b:=
 List.Perm.eq_of_pairwise (le:=(· ≤ ·)) (fun a b _ _ h1 h2=>by omega) ha hb p
section
variable (b u v y : Obj) (ds : ah)
end
end Go.Ev
namespace Go.Ev.N
def IZ:Nat:=245
def Hk:Nat:=246
def Hl:Nat:=247
def Vc:Nat:=248
def PY:Nat:=249
def Vd:Nat:=250
def I0:Nat:=251
def Ou:Nat:=252
def MQ:Nat:=253
def Ve:Nat:=254
def RY:Nat:=255
def XW:Nat:=256
def dI:Nat:=257
def Kh:Nat:=258
def rA:Nat:=259
def cm:Nat:=260
def bw:Nat:=261
def fC:Nat:=262
def aW:Nat:=263
def ak:Nat:=264
def dE:Nat:=265
def rY:Nat:=266
def aS:Nat:=267
def cD:Nat:=268
def az:Nat:=269
def cmp_isNaN_int:Nat:=270
end Go.Ev.N
namespace Go.Ev.K
open Go.Ev
def bX:C:= (.its [u (.bin .lss v10 v9)] [] 0 .skip (.exit 0) (.seq (.blk 1 (q [m v10,a 2 v8 v10,h 2 l0,w 7 (.al [.nil,.nil] []),x 6 l3,u (.st l1 l2 2 [])] [] (.blk 2 (.ite [f 0 v7,g l0,u (.ln l0),u (.ca N.cQ 0 [] [.l 0,.i 1,.i 12]),u (.un .not l0),m l0,y 0 false (.fa v7 1),i 1 false l0,y 2 false (.ln l0),y 3 false (.fa v7 0),i 4 false l0,y 5 false (.ln l0),y 6 false (.bin .neq l3 l0),u (.pk l7 (.b true) l0),m l0,y 0 false (.fa v7 0),i 1 false l0,y 2 false (.ca N.fC 0 [] [.l 0]),y 3 false (.un .not l0),u (.pk l4 (.b true) l0),m l0] [] 0 (q [x 4 (.b false)] [] .ret) (.ite [f 0 v7,g l0,u (.ca N.bw 0 [] [.l 0]),u (.ca N.cm 0 [] [.l 0]),m v5,u (.ca N.bc 0 [] [.l 1,.l 0]),u (.un .not l0),m l0] [] 0 (q [x 4 (.b false)] [] .ret) (.ite [m v6,u (.bin .gtr l0 (.i 0)),m l0,y 0 true (.fa v3 0),i 1 true l0,e 2 true v6,y 3 true (.bin .sub l0 (.i 1)),y 4 true (.ia l2 l0 2),y 5 true (.fa l0 0),i 6 true l0,y 7 true (.fa v7 0),i 8 true l0,y 9 true (.ca N.aW 0 [] [.l 2,.l 0]),y 10 true (.bin .geq l0 (.i 0)),u (.pk l11 l0 (.b false)),m l0] [] 0 (q [x 4 (.b false)] [] .ret) (.ite [f 1 v7,g l0,u (.mf N.dE [.v 2]),u (.ca N.ak 0 [] [.l 1,.l 0]),m l0] [] 0 (q [x 4 (.b false)] [] .ret) .skip))))))) (.reg [u (.bin .add v10 (.i 1)),x 10 l0] [])))
def pF:C:= .loop true [0,1,4,6,7] K.bX
def dI:Fn:= { aU:=2,vars:=[0,1,2,3,4,5,6,7,26,27,28],body:=(q [w 2 (.bx v0 2),w 3 (.bx v1 1),x 4 (.b false)] [] (.seq (.ite [h 2 v2,u (.ca N.et 0 [] [.l 0]),u (.un .not l0),m l0,y 0 false (.fa v3 0),i 1 false l0,y 2 false (.ln l0),y 3 false (.ca N.cQ 0 [] [.l 0,.i 1,.i 24]),y 4 false (.un .not l0),u (.pk l5 (.b true) l0)] [] 0 (q [x 4 (.b false)] [] .ret) .skip) (q [f 0 v3,g l0,a 2 l0 (.i 0),f 0 l0,g l0,u (.ca N.bw 0 [] [.l 0]),u (.ca N.cm 0 [] [.l 0]),x 5 l0] [] (.seq (q [f 0 v3,w 8 (.ld l0 1 false),w 9 (.ln l0),x 10 (.i 0)] [] (.blk 0 K.pF)) (q [x 4 (.b true)] [] .ret))))),res:=[(4,none)]}
def cm:Fn:= { aU:=1,vars:=[2],body:= .fail,res:=[(0,none)],prim:=[2,N.aS]}
def bw:Fn:= { aU:=1,vars:=[0,1,2],body:=(q [w 1 (.bx v0 1),w 2 (.mv (.c (.und)))] [] (q [u (.mf N.aS [.v 1]),x 2 l0] [] .ret)),res:=[(2,none)]}
def fC:Fn:= { aU:=1,vars:=[0,2,3],body:=(q [x 1 (.b false)] [] (q [m v0,u (.ca N.bw 0 [] [.l 0]),u (.ca N.cm 0 [] [.l 0]),x 2 l0] [] (q [m v2,u (.ca N.fy 0 [] [.l 0,.i 1,.i 65535]),x 1 l0] [] .ret))),res:=[(1,none)]}
def dh:C:= (.its [u (.bin .lss v9 v8)] [] 0 .skip (.exit 0) (.seq (.blk 1 (q [m v9,a 1 v7 v9,g l0,x 3 l2,x 4 l1] [] (.seq (.ite [m v3,m v1,u (.ln l0),u (.bin .geq l2 l0)] [] 0 (q [x 2 (.i 1)] [] .ret) .skip) (q [m v1,m v3,a 1 l1 l0,g l0,x 5 l0] [] (q [m v4,m v5,u (.ca N.cD 0 [] [.l 1,.l 0]),x 6 l0] [] (.ite [m v6,u (.bin .neq l0 (.i 0))] [] 0 (q [m v6,x 2 l0] [] .ret) .skip)))))) (.reg [u (.bin .add v9 (.i 1)),x 9 l0] [])))
def kp:C:= .loop true [2,3,4,5,6] K.dh
def aW:Fn:= { aU:=2,vars:=[0,1,4,5,6,7,8,9,10,11],body:=(q [x 2 (.i 0)] [] (.seq (q [x 7 v0,w 8 (.ln l0),x 9 (.i 0)] [] (.blk 0 K.kp)) (.seq (.ite [m v0,u (.ln l0),m v1,u (.ln l0),u (.bin .lss l2 l0)] [] 0 (q [w 2 (.mv (.i (-1)))] [] .ret) .skip) (q [x 2 (.i 0)] [] .ret)))),res:=[(2,none)]}
def ak:Fn:= { aU:=2,vars:=[0,1,4],body:=(q [x 2 (.b false)] [] (q [m v0,m v1,u (.ca N.az 0 [] [.l 1,.l 0]),u (.bin .geq l0 (.i 0)),x 2 l0] [] .ret)),res:=[(2,none)]}
def dE:Fn:= { aU:=2,vars:=[0,1,2,3],body:=(q [w 2 (.bx v0 2),x 3 (.b false)] [] (q [h 2 v1,h 2 v2,u (.ca N.eB 0 [] [.l 1,.l 0]),u (.un .not l0),x 3 l0] [] .ret)),res:=[(3,none)]}
def oE:C:= (.its [u (.bin .lss v5 v4)] [] 0 .skip (.exit 0) (.seq (.blk 1 (q [a 1 v3 v5,g l0,x 2 l0] [] (.ite [m v0,m v2,u (.cw l1 0 [] [.l 0]),u (.un .not l0)] [] 0 .ret .skip))) (.reg [u (.bin .add v5 (.i 1)),x 5 l0] [])))
def oM:C:= .loop true [1,2] K.oE
def aS:Fn:= { aU:=2,vars:=[0,1,4,5,6,7],body:=(q [w 3 (.ld v1 1 false),w 4 (.ln l0),x 5 (.i 0)] [] (.blk 0 K.oM)),res:=[]}
def cD:Fn:= { aU:=2,vars:=[0,1,4,5,6],body:=(q [x 2 (.i 0)] [] (q [m v0,u (.ca N.cmp_isNaN_int 0 [] [.l 0]),x 3 l0] [] (q [m v1,u (.ca N.cmp_isNaN_int 0 [] [.l 0]),x 4 l0] [] (.seq (.ite [m v3] [] 0 (.seq (.ite [m v4] [] 0 (q [x 2 (.i 0)] [] .ret) .skip) (q [w 2 (.mv (.i (-1)))] [] .ret)) .skip) (.seq (.ite [m v4] [] 0 (q [x 2 (.i 1)] [] .ret) .skip) (.seq (.ite [m v0,m v1,u (.bin .lss l1 l0)] [] 0 (q [w 2 (.mv (.i (-1)))] [] .ret) .skip) (.seq (.ite [m v0,m v1,u (.bin .gtr l1 l0)] [] 0 (q [x 2 (.i 1)] [] .ret) .skip) (q [x 2 (.i 0)] [] .ret)))))))),res:=[(2,none)]}
def bg:C:= (.its [u (.bin .lss v5 v4)] [] 0 .skip (.exit 0) (.seq (.blk 1 (q [m v5,x 3 l0] [] (.ite [m v1,m v0,m v3,a 2 l1 l0,h 2 l0,u (.cw l4 0 [] [.l 0])] [] 0 (q [m v3,x 2 l0] [] .ret) .skip))) (.reg [u (.bin .add v5 (.i 1)),x 5 l0] [])))
def cW:C:= .loop true [2,3] K.bg
def az:Fn:= { aU:=2,vars:=[0,1,4,5,7,8],body:=(q [x 2 (.i 0)] [] (.seq (q [m v0,w 4 (.ln l0),x 5 (.i 0)] [] (.blk 0 K.cW)) (q [w 2 (.mv (.i (-1)))] [] .ret))),res:=[(2,none)]}
def cmp_isNaN_int:Fn:= { aU:=1,vars:=[0,2],body:=(q [x 1 (.b false)] [] (q [m v0,m v0,u (.bin .neq l1 l0),x 1 l0] [] .ret)),res:=[(1,none)]}
end Go.Ev.K
namespace Go.Ev
class eR [Lib]:Prop where
 rB:Lib.fs N.dI=some K.dI
 kI:Lib.fs N.cm=some K.cm
 iT:Lib.fs N.bw=some K.bw
 pG:Lib.fs N.fC=some K.fC
 iI:Lib.fs N.aW=some K.aW
 bJ:Lib.fs N.ak=some K.ak
 oF:Lib.fs N.dE=some K.dE
 kq:Lib.fs N.aS=some K.aS
 mL:Lib.fs N.cD=some K.cD
 bR:Lib.fs N.az=some K.az
 oG:Lib.fs N.cmp_isNaN_int=some K.cmp_isNaN_int
namespace K
variable [Lib] [eR]
theorem rB:Lib.fs N.dI=some K.dI:=eR.rB
theorem kI:Lib.fs N.cm=some K.cm:=eR.kI
theorem iT:Lib.fs N.bw=some K.bw:=eR.iT
theorem pG:Lib.fs N.fC=some K.fC:=eR.pG
theorem iI:Lib.fs N.aW=some K.aW:=eR.iI
theorem bJ:Lib.fs N.ak=some K.ak:=eR.bJ
theorem oF:Lib.fs N.dE=some K.dE:=eR.oF
theorem kq:Lib.fs N.aS=some K.aS:=eR.kq
theorem mL:Lib.fs N.cD=some K.cD:=eR.mL
theorem bR:Lib.fs N.az=some K.az:=eR.bR
theorem oG:Lib.fs N.cmp_isNaN_int=some K.cmp_isNaN_int:=eR.oG
end K
end Go.Ev
namespace Go.Ev
open Go
variable [Lib] [cz] [bZ] [gU] [gJ] [kG] [gV] [gW] [jC] [gX] [fT] [eR]
theorem Au(l:List Int):aH 0 N.bw [.t (tL l)] []=some (.fn N.aS [.bp 0 0],[.box [.t (tL l)]]):=by
 refine av K.iT rfl ?_
 simp(disch:=omega)only[go_sem,K.bw,↓reduceIte,reduceAdd,reduceSub]
theorem Ki(l:List Int):zA (tL l)=some l:=by
 unfold zA
 simp only
 induction l with
 | nil=>rfl
 | cons x l ih=>
   simp only[List.map_cons,bf]at ih ⊢
   rw[ih];rfl
theorem Av(l:List Int)(hl:l.length≤1000000):aH 0 N.cm [.fn N.aS [.bp 0 0]] [.box [.t (tL l)]]=some (.t (tL (jO l)),[.box [.t (tL l)]]):=by
 refine EA K.kI (by decide) ?_
 show xd [2,N.aS] _ _=_
 simp only[xd,if_true,List.getElem?_cons_zero,tS,aLq,Ki]
 rw[if_pos (by unfold lim;omega)]
theorem I3(a:Int):aH 0 N.cmp_isNaN_int [I a] []=some (B false,[]):=by
 refine av K.oG rfl ?_
 simp(disch:=omega)only[go_sem,K.cmp_isNaN_int,↓reduceIte,decide_true,Bool.not_true,reduceAdd,reduceSub]
def MR(a b:Int):Int:=if a<b then -1 else if b<a then 1 else 0
theorem RZ(a b:Int):aH 0 N.cD [I a,I b] []=some (I (MR a b),[]):=by
 refine av K.mL rfl ?_
 have h1:=I3 a
 have h2:=I3 b
 unfold MR
 by_cases c1:a<b
 · simp(disch:=omega)only[go_sem,K.cD,↓reduceIte,h1,h2,c1,aLt,reduceAdd,reduceSub]
 · by_cases c2:b<a
   · simp(disch:=omega)only[go_sem,K.cD,↓reduceIte,h1,h2,c1,c2,aLt,reduceAdd,reduceSub]
   · simp(disch:=omega)only[go_sem,K.cD,↓reduceIte,h1,h2,c1,c2,aLt,reduceAdd,reduceSub]
def I4(a b:List Int)(j:Nat):Bool:=decide (b.length≤j)||decide (nth a j≠nth b j)
def PZ(a b:List Int):Int:=match (List.range a.length).find? (I4 a b)with
 | some j=>if b.length≤j then 1 else MR (nth a j) (nth b j)
 | none=>if a.length<b.length then -1 else 0
theorem B9(a b:List Int)(ha:a.length≤1000000)(hb:b.length≤1000000):aH 0 N.aW [.t (tL a),.t (tL b)] []=some (I (PZ a b),[]):=by
 refine av K.iI rfl ?_
 have loop:∀z2 z3 z4 z5 z6:D,exS aH K.kp ⟨[.t (tL a),.t (tL b),z2,z3,z4,z5,z6,.t (tL a),I a.length,I 0],[]⟩=
  some (match (List.range a.length).find? (I4 a b)with
   | some j=>(.ret,⟨[.t (tL a),.t (tL b),I (if b.length≤j then 1 else MR (nth a j) (nth b j)),I j,I (nth a j),if b.length≤j then .und else I (nth b j),if b.length≤j then .und else I (MR (nth a j) (nth b j)),.t (tL a),I a.length,I j],[]⟩)
   | none=>(.exit 0,⟨[.t (tL a),.t (tL b),.und,.und,.und,.und,.und,.t (tL a),I a.length,I a.length],[]⟩)):=by
  intro z2 z3 z4 z5 z6
  refine cP (fun j=>⟨[.t (tL a),.t (tL b),.und,.und,.und,.und,.und,.t (tL a),I a.length,I j],[]⟩) a.length (I4 a b) _ _ rfl ?_ ?_ ?_ (by simp)
  · intro j hj hp
    simp only[I4,Bool.or_eq_false_iff,decide_eq_false_iff_not,Decidable.not_not]at hp
    obtain⟨h1,h2⟩:=hp
    have c:=RZ (nth a j) (nth b j)
    rw[h2]at c
    have e:MR (nth b j) (nth b j)=0:=by unfold MR;rw[if_neg (by omega),if_neg (by omega)]
    rw[e]at c
    simp(disch:=omega)only[go_sem,K.dh,↓reduceIte,h2,c,reduceAdd,reduceSub]
  · intro j hj hp
    refine⟨?_,by simp⟩
    by_cases h1:b.length≤j
    · rw[if_pos h1,if_pos h1,if_pos h1]
      simp(disch:=omega)only[go_sem,K.dh,↓reduceIte,reduceAdd,reduceSub]
    · rw[if_neg h1,if_neg h1,if_neg h1]
      have h2:nth a j≠nth b j:=by simpa [I4,h1]using hp
      have c:=RZ (nth a j) (nth b j)
      have e:MR (nth a j) (nth b j)≠0:=by
       unfold MR;split
       · omega
       · split<;>omega
      generalize MR (nth a j) (nth b j)=v at*
      simp(disch:=omega)only[go_sem,K.dh,↓reduceIte,c,e,reduceAdd,reduceSub]
  · simp(disch:=omega)only[go_sem,K.dh,↓reduceIte,reduceAdd,reduceSub]
 unfold PZ
 cases hf:(List.range a.length).find? (I4 a b)with
 | some j=>
   simp only[hf]at loop
   simp(disch:=omega)only[go_sem,K.aW,↓reduceIte,loop,reduceAdd,reduceSub]
 | none=>
   simp only[hf]at loop
   by_cases h:a.length<b.length
   · simp(disch:=omega)only[go_sem,K.aW,↓reduceIte,loop,h,reduceAdd,reduceSub]
   · simp(disch:=omega)only[go_sem,K.aW,↓reduceIte,loop,h,reduceAdd,reduceSub]
end Go.Ev
namespace Go.Ev
open Go
variable [Lib] [cz] [bZ]
@[go_sem] theorem R0 {α β γ : Type} [Dat α] (f : β → γ) (g : α → β) {l : List α} {i j : Nat} {x : α} (h : j < l.length) : (((l.set i x).map g).map f)[j]? = some (f (g (nth (l.set i x) j))) := CQ f g (by rw [List.length_set]; exact h)
def Hm(l:List Int)(i j:Nat):List Int:=(l.set i (nth l j)).set j (nth l i)
def tZ(i j:Nat)(t:Int)(x:World):World:=⟨Hm x.tags i j,(x.whr.set i (ez (nth x.whr i) t).1).set j (ez (nth x.whr j) t).1⟩
def wJ(i j:Nat)(t:Int)(x:World)(out:List World):List World:=if EL (nth x.whr i) (nth x.whr j) t=true then out++[tZ i j t x]else out
def gr(i j:Nat)(t:Int)(ws:List World):Nat→List World
 | 0=>ws
 | k+1=>wJ i j t (nth ws k) (gr i j t ws k)
def jm(m:aP)(b:Bel)(i j t:Int):Bel×Int:=
 if oX m b=false then(b,6)else if i<0∨((nth b.aq 0).tags.length:Int)≤i∨j<0∨((nth b.aq 0).tags.length:Int)≤j∨i=j then(b,19)
 else if ¬inT t then(b,8)else if 24<(qh (gr i.toNat j.toNat t b.aq b.aq.length)).length then(b,44)else(⟨qh (gr i.toNat j.toNat t b.aq b.aq.length)⟩,0)
theorem MS(i j:Nat)(t:Int)(x:World)(out:List World):out.length≤(wJ i j t x out).length∧(wJ i j t x out).length≤out.length+1:=by
 unfold wJ;split<;>(try rw[aLv,List.length_singleton])<;>omega
theorem qi(i j:Nat)(t:Int)(ws:List World):∀k,ws.length≤(gr i j t ws k).length∧(gr i j t ws k).length≤ws.length+k
 | 0=>⟨aLs _,aLs _⟩
 | k+1=>by
   have h1:=qi i j t ws k
   have h2:=MS i j t (nth ws k) (gr i j t ws k)
   simp only[gr];omega
abbrev exH(m:aP)(ws out:List World):ah:=[.box (ae m),.box [.t (.sl (ws.map World.e))],.box [.nil],.arr 2 false 0 ((out.map World.e).map .t)]
theorem Kj(m:aP)(ws:List World)(hw:ws.length≤100000)(i j:Nat)(hij:i≠j)(t:Int)(k:Nat)(hk:k<ws.length)(hs:(nth ws k).sz)
 (i1:i<(nth ws k).tags.length) (j1:j<(nth ws k).tags.length) (hl:(nth ws k).whr.length=(nth ws k).tags.length) (out:List World) (ho:out.length≤1000000):
 dV true [0,1,5,8,9,12] 4 (exS aH K.gR ⟨[.und,.und,I i,I j,I t,.und,.bp 1 0,.bp 2 0,.und,.und,.ref 3 0 out.length,I k,.und],exH m ws out⟩)=
  some ⟨[.und,.und,I i,I j,I t,.und,.bp 1 0,.bp 2 0,.und,.und,.ref 3 0 (wJ i j t (nth ws k) out).length,I (k+1),.und],exH m ws (wJ i j t (nth ws k) out)⟩:=by
 have c1:=lL (nth ws k) hs
 have mt:=Uf (nth (nth ws k).whr i) (nth (nth ws k).whr j) t (hs.2.2 _ (af (by omega)))
 have r1:=ID (nth (nth ws k).whr i) t (hs.2.2 _ (af (by omega)))
 have r2:=ID (nth (nth ws k).whr j) t (hs.2.2 _ (af (by omega)))
 unfold wJ tZ Hm
 have n1:∀w,nth ((nth ws k).whr.set i w) j=nth (nth ws k).whr j:=fun w=>by rw[sO _ _ (by omega),if_neg (fun e=>hij e.symm)]
 generalize hx:nth ws k=x at*
 obtain⟨tags,whr⟩:=x
 obtain⟨s1,s2,s3⟩:=hs
 simp only at*
 generalize hwi:nth whr i=wi at*
 generalize hwj:nth whr j=wj at*
 generalize ez wi t=ri at*
 obtain⟨⟨t1,f1⟩,e1⟩:=ri
 generalize ez wj t=rj at*
 obtain⟨⟨t2,f2⟩,e2⟩:=rj
 obtain⟨ti,fi⟩:=wi
 obtain⟨tj,fj⟩:=wj
 simp only at*
 cases hm:EL ⟨ti,fi⟩ ⟨tj,fj⟩ t with
 | true=>
   rw[hm]at mt
   simp(disch:=omega)only[go_sem,K.gR,↓reduceIte,exH,hx,hwi,hwj,n1,c1,mt,r1,r2,reduceAdd,reduceSub]
 | false=>
   rw[hm]at mt
   simp(disch:=omega)only[go_sem,K.gR,↓reduceIte,exH,hx,hwi,hwj,n1,c1,mt,r1,r2,reduceAdd,reduceSub,aLt]
theorem tP(w:Wh)(t:Int):(ez w t).1.frm=w.frm:=by unfold ez;split<;>rfl
theorem P0{i j:Nat}{t:Int}{x:World}(h:x.sz)(hi:i<x.whr.length)(hj:j<x.whr.length):(tZ i j t x).sz:=by
 obtain⟨s1,s2,s3⟩:=h
 refine⟨by simpa [tZ,Hm]using s1,by simpa [tZ]using s2,fun w hw=>?_⟩
 simp only[tZ]at hw
 rcases aLk hw with hw | rfl
 · rcases aLk hw with hw | rfl
   · exact s3 w hw
   · rw[tP];exact s3 _ (af hi)
 · rw[tP];exact s3 _ (af hj)
theorem Aw{ws:List World}(h:∀x∈ws,x.sz){i j:Nat}{t:Int}(hi:∀k,k<ws.length→i<(nth ws k).whr.length)(hj:∀k,k<ws.length→j<(nth ws k).whr.length):∀k,k≤ws.length→∀x∈gr i j t ws k,x.sz
 | 0,_,x,hx=>h x hx
 | k+1,hk,x,hx=>by
   simp only[gr,wJ]at hx
   split at hx
   · rcases List.mem_append.1 hx with hx | hx
     · exact Aw h hi hj k (by omega) x hx
     · rw[List.mem_singleton.1 hx];exact P0 (h _ (af (by omega))) (hi k (by omega)) (hj k (by omega))
   · exact Aw h hi hj k (by omega) x hx
theorem Ca{m:aP}(h:m.ok)(b:Bel)(hs:b.sz)(i j t:Int):
 aH 0 N.bA [.t m.e,.t b.e,I i,I j,I t] []=some (.tup [.t (jm m b i j t).1.e,I (jm m b i j t).2],[]):=by
 refine av K.ni rfl ?_
 have cb:=tJ b hs
 have cb1:=GY b hs
 have vb:=GZ h b hs
 unfold jm
 cases hb:oX m b with
 | false=>
   rw[hb]at vb
   obtain⟨ws⟩:=b
   simp(disch:=omega)only[go_sem,K.bA,↓reduceIte,cb,vb,reduceAdd,reduceSub]
 | true=>
   rw[hb]at vb
   obtain⟨w1,w2,f1,f2,w5⟩:=ft hb
   obtain⟨ws⟩:=b
   obtain⟨s1,s2⟩:=hs
   simp only at s1 s2 w1 w2 w5 f1 f2 cb cb1 vb ⊢
   have g0:(ws.map World.e)[0]?=some (nth ws 0).e:=cI _ (by omega)
   have wl:∀k,k<ws.length→(nth ws k).tags.length=(nth ws 0).tags.length∧(nth ws k).whr.length=(nth ws 0).tags.length:=fun k hk=>by
    obtain⟨q1,q2, -⟩:=ik (w5 k hk)
    exact⟨q1,q2⟩
   generalize hx:nth ws 0=x at*
   obtain⟨first,whr⟩:=x
   simp only at f1 f2 wl g0 ⊢
   rw[if_neg (by simp)]
   by_cases c1:i<0
   · rw[if_pos (by omega)]
     simp(disch:=omega)only[go_sem,K.bA,↓reduceIte,cb,vb,hx,g0,c1,reduceAdd,reduceSub]
   · by_cases c2:(first.length:Int)≤i
     · rw[if_pos (by omega)]
       simp(disch:=omega)only[go_sem,K.bA,↓reduceIte,cb,vb,hx,g0,c1,c2,reduceAdd,reduceSub]
     · by_cases c3:j<0
       · rw[if_pos (by omega)]
         simp(disch:=omega)only[go_sem,K.bA,↓reduceIte,cb,vb,hx,g0,c1,c2,c3,reduceAdd,reduceSub]
       · by_cases c4:(first.length:Int)≤j
         · rw[if_pos (by omega)]
           simp(disch:=omega)only[go_sem,K.bA,↓reduceIte,cb,vb,hx,g0,c1,c2,c3,c4,reduceAdd,reduceSub]
         · by_cases c5:i=j
           · rw[if_pos (by omega)]
             simp(disch:=omega)only[go_sem,K.bA,↓reduceIte,cb,vb,hx,g0,c1,c2,c3,c4,c5,reduceAdd,reduceSub]
           · rw[if_neg (by omega)]
             by_cases ct:inT t
             · have ct':=ct
               unfold inT at ct'
               rw[if_neg (fun h=>h ct)]
               obtain⟨i',rfl⟩:=Int.eq_ofNat_of_zero_le (show 0≤i by omega)
               obtain⟨j',rfl⟩:=Int.eq_ofNat_of_zero_le (show 0≤j by omega)
               simp only[Int.toNat_natCast]
               have ln:=qi i' j' t ws
               have loop:∀a b c d e f:D,exS aH K.p7 ⟨[a,b,I i',I j',I t,c,.bp 1 0,.bp 2 0,d,e,.ref 3 0 ws.length,I 0,f],exH m ws ws⟩=
                some (.exit 0,⟨[.und,.und,I i',I j',I t,.und,.bp 1 0,.bp 2 0,.und,.und,.ref 3 0 (gr i' j' t ws ws.length).length,I ws.length,.und],exH m ws (gr i' j' t ws ws.length)⟩):=by
                intro a b c d e f
                refine dw (fun k=>⟨[.und,.und,I i',I j',I t,.und,.bp 1 0,.bp 2 0,.und,.und,.ref 3 0 (gr i' j' t ws k).length,I k,.und],exH m ws (gr i' j' t ws k)⟩) ws.length rfl ?_ ?_ (by simp)
                · intro k hk
                  obtain⟨q1,q2⟩:=wl k hk
                  have:=ln k
                  exact Kj m ws (by omega) i' j' (by omega) t k hk (s2 _ (af hk)) (by omega) (by omega) (by omega) _ (by omega)
                · have:=ln ws.length
                  generalize gr i' j' t ws ws.length=L at*
                  simp(disch:=omega)only[go_sem,K.gR,↓reduceIte,exH,reduceAdd,reduceSub]
               have ln:=ln ws.length
               have sz:=Aw (t:=t) s2 (i:=i') (j:=j') (fun k hk=>by obtain⟨q1,q2⟩:=wl k hk;omega) (fun k hk=>by obtain⟨q1,q2⟩:=wl k hk;omega) ws.length (aLs _)
               have ty:=Up (gr i' j' t ws ws.length) (by omega) (by omega) sz
               generalize gr i' j' t ws ws.length=L at*
               generalize qh L=Z at*
               simp only[exH]at loop
               by_cases c6:24<Z.length
               · simp(disch:=omega)only[go_sem,K.bA,↓reduceIte,cb,cb1,vb,hx,g0,c1,c2,c3,c4,c5,c6,loop,ty,reduceAdd,reduceSub]
               · simp(disch:=omega)only[go_sem,K.bA,↓reduceIte,cb,cb1,vb,hx,g0,c1,c2,c3,c4,c5,c6,loop,ty,reduceAdd,reduceSub]
             · rw[if_pos ct]
               unfold inT at ct
               by_cases c6:t<0
               · simp(disch:=omega)only[go_sem,K.bA,↓reduceIte,cb,vb,hx,g0,c1,c2,c3,c4,c5,c6,reduceAdd,reduceSub]
               · simp(disch:=omega)only[go_sem,K.bA,↓reduceIte,cb,vb,hx,g0,c1,c2,c3,c4,c5,c6,reduceAdd,reduceSub]
def rC:Nat→List Int
 | 0=>[]
 | k+1=>rC k++[3+(k:Int)*2]
def aE.m0(d:aE)(n:Int):Nat→List Int×aE
 | 0=>([],d)
 | k+1=>((d.m0 n k).1++[((d.m0 n k).2.next n).1],((d.m0 n k).2.next n).2)
theorem lV:∀k,(rC k).length=k
 | 0=>rfl
 | k+1=>by simp[rC,lV k]
theorem aE.kY(d:aE)(n:Int):∀k,(d.m0 n k).1.length=k
 | 0=>rfl
 | k+1=>by simp[aE.m0,d.kY n k]
theorem aE.o5{d:aE}(h:d.dO)(n:Int):∀k,(d.m0 n k).2.dO
 | 0=>h
 | k+1=>aE.a7 (aE.o5 h n k) n
structure BSt where
 b:Bel
 t:Int
 d:aE
def aE.lW(m:aP)(n:Int)(s:BSt):BSt:=
 let a:=s.d.next 60
 let c:=a.2.next 3
 if c.1=0 then
  let i:=c.2.next n
  let j:=i.2.next n
  let r:=jm m s.b i.1 j.1 (s.t+a.1)
  ⟨if r.2=0 then r.1 else s.b,s.t+a.1,j.2⟩
 else if c.1=1 then
  let g:=c.2.next n
  let l:=g.2.mU m.aa.length
  let e:=l.2.next 9
  let r:=kh m s.b (3+2*g.1) l.1 (s.t+a.1) (s.t+a.1+e.1)
  ⟨if r.2=0 then r.1 else s.b,s.t+a.1,e.2⟩
 else
  let g:=c.2.next n
  let l:=g.2.mU m.aa.length
  let e:=l.2.next 40
  let r:=kj m s.b (3+2*g.1) l.1 (s.t+a.1) (s.t+a.1+50) e.1
  ⟨if r.2=0 then r.1 else s.b,s.t+a.1,e.2⟩
def aE.xK(m:aP)(n:Int)(s:BSt):Nat→BSt
 | 0=>s
 | k+1=>aE.lW m n (aE.xK m n s k)
def aE.pH(d:aE):Nat:=(1+(d.next 3).1).toNat
def aE.nJ(d:aE)(m:aP):List Int×aE:=(d.next 3).2.m0 m.aa.length d.pH
def aE.K1(d:aE)(m:aP):BSt:=⟨(tK m (rC d.pH) (d.nJ m).1 ((d.nJ m).2.next 100).1).1,100,(((d.nJ m).2.next 100).2.next 5).2⟩
def aE.MT(d:aE)(m:aP):Nat:=(((d.nJ m).2.next 100).2.next 5).1.toNat
def aE.adA(d:aE)(m:aP):BSt:=aE.xK m d.pH (d.K1 m) (d.MT m)
def aE.s0(d:aE)(m:aP):Bel×aE:=((d.adA m).b,(d.adA m).d)
structure WOk(m:aP)(N:Nat)(x:World):Prop where
 tg:x.tags.length=N
 wh:x.whr.length=N
 fr:∀w∈x.whr,w.frm.length=m.aa.length
 ti:∀w∈x.whr,inT w.time
structure BOk(m:aP)(N:Nat)(b:Bel):Prop where
 w1:1≤b.aq.length
 w2:b.aq.length≤24
 n1:1≤N
 n2:N≤12
 ws:∀x∈b.aq,WOk m N x
theorem WOk.sz{m:aP}{N:Nat}{x:World}(h:WOk m N x)(hm:m.ok)(hn:N≤12):x.sz:=by
 have np:=hm.np
 obtain⟨t1,t2,t3, -⟩:=h
 exact⟨by omega,by omega,fun w hw=>by rw[t3 w hw];omega⟩
theorem BOk.sz{m:aP}{N:Nat}{b:Bel}(h:BOk m N b)(hm:m.ok):b.sz:=
 ⟨by have:=h.w2;omega,fun x hx=>(h.ws x hx).sz hm h.n2⟩
theorem C9{m:aP}{n:Int}{s:BSt}(h:s.d.dO):(aE.lW m n s).d.dO:=by
 unfold aE.lW
 simp only
 have l1:=aE.a7 h 60
 generalize s.d.next 60=a at*
 obtain⟨a1,d1⟩:=a
 simp only at l1 ⊢
 have l2:=aE.a7 l1 3
 generalize d1.next 3=c at*
 obtain⟨c1,d2⟩:=c
 simp only at l2 ⊢
 split
 · exact aE.a7 (aE.a7 l2 n) n
 · split
   · exact aE.a7 (aE.my (aE.a7 l2 n) _) 9
   · exact aE.a7 (aE.my (aE.a7 l2 n) _) 40
abbrev blH(m:aP)(p1 p2:Bool)(tags bU:List Int)(s:BSt):ah:=[s.d.obj,.box (ae m),.box [.nil],.arr 1 p1 0 (ints tags),.arr 1 p2 0 (ints bU),.box [.t (.sl (s.b.aq.map World.e))]]
theorem MU{m:aP}(hm:m.ok)(n:Int)(n1:1≤n)(n2:n≤12)(tags bU:List Int)(s:BSt)(hd:s.d.dO)(hb:s.b.sz)(ht:0≤s.t)(ht2:s.t≤1000000)(k:Nat)(hk:k≤100)(p1 p2:Bool):
 dV true [1,5,6,7,11,12,13,14,15,16,17] 6 (exS aH K.bI ⟨[.bp 0 0,.und,.bp 1 0,.bp 2 0,I n,.und,.und,.und,.bp 5 0,I s.t,I (k+1),.und,.und,.und,.und,.und,.und,.und],blH m p1 p2 tags bU s⟩)=
 some ⟨[.bp 0 0,.und,.bp 1 0,.bp 2 0,I n,.und,.und,.und,.bp 5 0,I (aE.lW m n s).t,I k,.und,.und,.und,.und,.und,.und,.und],blH m p1 p2 tags bU (aE.lW m n s)⟩:=by
 obtain⟨b,t,d⟩:=s
 simp only at hd hb ht ht2
 unfold aE.lW
 simp only
 have np:=hm.np
 have h1:=ij d 60 (by omega) hd
 have l1:=aE.a7 hd 60
 have a0:=d.eE 60
 have a9:=d.eG (n:=60) (by omega)
 generalize d.next 60=a at*
 obtain⟨x1,d1⟩:=a
 simp only at h1 l1 a0 a9 ⊢
 have h2:=ij d1 3 (by omega) l1
 have l2:=aE.a7 l1 3
 have c0:=d1.eE 3
 have c9:=d1.eG (n:=3) (by omega)
 generalize d1.next 3=c at*
 obtain⟨x2,d2⟩:=c
 simp only at h2 l2 c0 c9 ⊢
 have h3:=ij d2 n (by omega) l2
 have l3:=aE.a7 l2 n
 have g0:=d2.eE n
 have g9:=d2.eG (n:=n) n1
 generalize d2.next n=g at*
 obtain⟨x3,d3⟩:=g
 simp only at h3 l3 g0 g9 ⊢
 by_cases e0:x2=0
 · simp only[if_pos e0]
   have h4:=ij d3 n (by omega) l3
   generalize d3.next n=g at*
   obtain⟨x4,d4⟩:=g
   simp only at h4 ⊢
   have ex:=Ca hm b hb x3 x4 (t+x1)
   generalize jm m b x3 x4 (t+x1)=r at*
   obtain⟨⟨ws'⟩,er⟩:=r
   obtain⟨ws⟩:=b
   simp only at ex ⊢
   subst e0
   by_cases e:er=0
   · simp(disch:=omega)only[go_sem,K.bI,↓reduceIte,blH,h1,h2,h3,h4,ex,e,reduceAdd,reduceSub]
   · simp(disch:=omega)only[go_sem,K.bI,↓reduceIte,blH,h1,h2,h3,h4,ex,e,reduceAdd,reduceSub]
 · simp only[if_neg e0]
   have h4:=Ma d3 m.aa.length (by omega) l3
   have l4:=aE.my l3 m.aa.length
   have ln:=d3.wg m.aa.length
   generalize d3.mU m.aa.length=q at*
   obtain⟨l,d4⟩:=q
   simp only at h4 l4 ln ⊢
   by_cases e1:x2=1
   · simp only[if_pos e1]
     have h5:=ij d4 9 (by omega) l4
     have f0:=d4.eE 9
     have f9:=d4.eG (n:=9) (by omega)
     generalize d4.next 9=g at*
     obtain⟨x5,d5⟩:=g
     simp only at h5 f0 f9 ⊢
     have ex:=EP hm b hb (3+2*x3) l (by omega) (t+x1) (t+x1+x5)
     generalize kh m b (3+2*x3) l (t+x1) (t+x1+x5)=r at*
     obtain⟨⟨ws'⟩,er⟩:=r
     obtain⟨ws⟩:=b
     simp only at ex ⊢
     subst e1
     by_cases e:er=0
     · simp(disch:=omega)only[go_sem,K.bI,↓reduceIte,blH,h1,h2,h3,h4,h5,ex,e,reduceAdd,reduceSub]
     · simp(disch:=omega)only[go_sem,K.bI,↓reduceIte,blH,h1,h2,h3,h4,h5,ex,e,reduceAdd,reduceSub]
   · simp only[if_neg e1]
     have h5:=ij d4 40 (by omega) l4
     have f0:=d4.eE 40
     have f9:=d4.eG (n:=40) (by omega)
     generalize d4.next 40=g at*
     obtain⟨x5,d5⟩:=g
     simp only at h5 f0 f9 ⊢
     have ex:=ES hm b hb (3+2*x3) l (by omega) (t+x1) (t+x1+50) x5
     generalize kj m b (3+2*x3) l (t+x1) (t+x1+50) x5=r at*
     obtain⟨⟨ws'⟩,er⟩:=r
     obtain⟨ws⟩:=b
     simp only at ex ⊢
     by_cases e:er=0
     · simp(disch:=omega)only[go_sem,K.bI,↓reduceIte,blH,h1,h2,h3,h4,h5,ex,e,e0,e1,reduceAdd,reduceSub]
     · simp(disch:=omega)only[go_sem,K.bI,↓reduceIte,blH,h1,h2,h3,h4,h5,ex,e,e0,e1,reduceAdd,reduceSub]
theorem Fe{m:aP}(hm:m.ok){p t:Int}(p0:0≤p)(p1:p<m.aa.length)(ht:inT t):(gT m p t).2=0∧(gT m p t).1.frm.length=m.aa.length:=by
 unfold gT
 rw[if_neg (by omega),if_pos ht]
 refine⟨rfl,?_⟩
 exact jT hm t ht none (fun l h=>by cases h) (by simp) (xA (xC _) ht.1 (by have:=ht.2;omega))
theorem MV{m:aP}{p t:Int}(ht:inT t):inT (gT m p t).1.time:=by
 unfold gT
 split
 · unfold inT;simp
 · exact ht
theorem Vf{m:aP}(w:Wh)(l:List Int)(a b:Int)(hw:inT w.time):inT (w8 m w l a b).1.time:=by
 unfold w8
 split
 · exact hw
 · rename_i h
   have h0:iF m w l a b=0:=by simpa using h
   obtain⟨v1,v2,v3,v4,v5,v6⟩:=lK h0
   split
   · exact hw
   · split
     · exact v5
     · exact hw
theorem Vg{m:aP}(w:Wh)(l:List Int)(a b bl:Int)(hw:inT w.time):inT (w9 m w l a b bl).1.time:=by
 unfold w9
 split
 · exact hw
 · rename_i h
   have h0:iF m w l a b=0:=by simpa using h
   obtain⟨v1,v2,v3,v4,v5,v6⟩:=lK h0
   split
   · exact hw
   · split
     · exact hw
     · split
       · exact hw
       · exact v5
theorem P1{a b:Wh}(ha:inT a.time)(hb:inT b.time):inT (jh a b).1.time:=by
 unfold jh
 split
 · unfold inT at *;simp only;omega
 · unfold inT;simp
theorem Ff{w:Wh}{t:Int}(h:inT w.time):inT (ez w t).1.time:=by
 unfold ez
 split
 · exact h
 · unfold inT at *;simp only;omega
theorem I5(a b:List Wh)(ha:∀w∈a,inT w.time)(hb:∀w∈b,inT w.time):∀p,p≤a.length→p≤b.length→∀w∈jV a b p,inT w.time
 | 0,_,_,w,hw=>ha w hw
 | p+1,h1,h2,w,hw=>by
   simp only[jV]at hw
   rcases aLk hw with hw | rfl
   · exact I5 a b ha hb p (by omega) (by omega) w hw
   · exact P1 (ha _ (af (by omega))) (hb _ (af (by omega)))
theorem P2{m:aP}(hm:m.ok)(w:Wh)(l:List Int)(a b:Int)(hw:w.frm.length=m.aa.length):(w8 m w l a b).1.frm.length=m.aa.length:=by
 unfold w8
 split
 · exact hw
 · rename_i h
   have h0:iF m w l a b=0:=by simpa using h
   obtain⟨v1,v2,v3,v4,v5,v6⟩:=lK h0
   obtain⟨w1,w2,w3,w4⟩:=cU v1
   have hb:bnd w.frm:=fun x hx=>kF (w3 x hx)
   split
   · exact hw
   · split
     · refine jT hm a v4 none (fun l h=>by cases h) (oW _ _ _ _ _) (zj hb _ _ ?_ _ (aLs _))
       intro p hp
       obtain⟨j,hj⟩:=aLf.1 hp
       have hjl:=(aLe.1 hj).1
       obtain⟨q1,q2, -⟩:=nT v3 hjl
       rw[bP hj]at q1 q2
       omega
     · exact hw
theorem P3{m:aP}(hm:m.ok)(w:Wh)(l:List Int)(a b bl:Int)(hw:w.frm.length=m.aa.length):(w9 m w l a b bl).1.frm.length=m.aa.length:=by
 unfold w9
 split
 · exact hw
 · rename_i h
   have h0:iF m w l a b=0:=by simpa using h
   obtain⟨v1,v2,v3,v4,v5,v6⟩:=lK h0
   obtain⟨w1,w2,w3,w4⟩:=cU v1
   have hb:bnd w.frm:=fun x hx=>kF (w3 x hx)
   split
   · exact hw
   · split
     · exact hw
     · split
       · exact hw
       · rename_i h1 h2 h3
         have hlen:=zi v3
         have np:=hm.np
         have h1:inT bl:=by simpa using h1
         unfold inT at v4 v5 w2 h1
         have t1:inT (b-bl):=by unfold inT;omega
         have hi:∀s,some l=some s→s≠[]∧s.length≤64:=by
          intro s hs;cases hs;exact⟨v2,by omega⟩
         have ln:=tH w.frm l l.length
         have lb:=zk hb l l.length
         exact jT hm b v5 none (fun l h=>by cases h) (jT hm _ t1 _ hi (by omega) lb) (xB hm _ t1 _ hi (by omega) lb)
theorem MW{m:aP}{N:Nat}{tag:Int}{x:World}{w:Wh}(hx:WOk m N x)(hw:w.frm.length=m.aa.length)(hw2:inT w.time):WOk m N (EN tag x w):=by
 obtain⟨t1,t2,t3,t4⟩:=hx
 refine⟨t1,by simpa [EN]using t2,fun y hy=>?_,fun y hy=>?_⟩
 · simp only[EN]at hy
   rcases aLk hy with hy | rfl
   · exact t3 y hy
   · exact hw
 · simp only[EN]at hy
   rcases aLk hy with hy | rfl
   · exact t4 y hy
   · exact hw2
theorem Hn{m:aP}(hm:m.ok){N:Nat}{b:Bel}(hb:BOk m N b)(tag:Int)(l:List Int)(a c:Int):BOk m N (if(kh m b tag l a c).2=0 then(kh m b tag l a c).1 else b):=by
 split
 · rename_i h0
   unfold kh at h0 ⊢
   by_cases e0:gl m b tag=0
   · simp only[e0,ne_eq,not_true_eq_false,if_false]at h0 ⊢
     obtain⟨_,bb⟩:=An e0
     cases hf:(List.range b.aq.length).find? (yx m tag l a c b.aq)with
     | some i=>simp only[hf];exact hb
     | none=>
       simp only[hf]at h0 ⊢
       split at h0
       · simp at h0
       · rename_i hl
         rw[if_neg hl]
         have ln:=sM m tag l a c b.aq b.aq.length
         refine⟨by simp only;omega,by have:=hb.w2;simp only;omega,hb.n1,hb.n2,?_⟩
         have key:∀j,j≤b.aq.length→∀x∈lq m tag l a c b.aq j,WOk m N x:=by
          intro j
          induction j with
          | zero=>intro _ x hx;simp[lq]at hx
          | succ j ih=>
            intro hj x hx
            have wj:=hb.ws _ (af (l:=b.aq) (j:=j) (by omega))
            obtain⟨b1,b2⟩:=bb j (by omega)
            simp only[lq,wA]at hx
            split at hx
            · exact ih (by omega) x hx
            · rcases List.mem_append.1 hx with hx | hx
              · exact ih (by omega) x hx
              · rw[List.mem_singleton.1 hx]
                split
                · exact MW wj (P2 hm _ l a c (wj.fr _ (af (by omega)))) (Vf _ l a c (wj.ti _ (af (by omega))))
                · exact wj
         exact key _ (aLs _)
   · rw[if_pos e0]at h0 ⊢
     exact hb
 · exact hb
theorem Ho{m:aP}(hm:m.ok){N:Nat}{b:Bel}(hb:BOk m N b)(tag:Int)(l:List Int)(a c bl:Int):BOk m N (if(kj m b tag l a c bl).2=0 then(kj m b tag l a c bl).1 else b):=by
 split
 · rename_i h0
   unfold kj at h0 ⊢
   by_cases e0:gl m b tag=0
   · simp only[e0,ne_eq,not_true_eq_false,if_false]at h0 ⊢
     obtain⟨_,bb⟩:=An e0
     cases hf:(List.range b.aq.length).find? (yy m tag l a c bl b.aq)with
     | some i=>simp only[hf];exact hb
     | none=>
       simp only[hf]
       have ln:=sN m tag l a c bl b.aq b.aq.length
       refine⟨by have:=hb.w1;simp only;omega,by have:=hb.w2;simp only;omega,hb.n1,hb.n2,?_⟩
       have key:∀j,j≤b.aq.length→∀x∈mW m tag l a c bl b.aq j,WOk m N x:=by
        intro j
        induction j with
        | zero=>intro _ x hx;simp[mW]at hx
        | succ j ih=>
          intro hj x hx
          have wj:=hb.ws _ (af (l:=b.aq) (j:=j) (by omega))
          obtain⟨b1,b2⟩:=bb j (by omega)
          simp only[mW,CZ]at hx
          rcases List.mem_append.1 hx with hx | hx
          · exact ih (by omega) x hx
          · rw[List.mem_singleton.1 hx]
            split
            · exact MW wj (P3 hm _ l a c bl (wj.fr _ (af (by omega)))) (Vg _ l a c bl (wj.ti _ (af (by omega))))
            · exact wj
       exact key _ (aLs _)
   · rw[if_pos e0]at h0 ⊢
     exact hb
 · exact hb
theorem MX{m:aP}{a b:Wh}(ha:a.frm.length=m.aa.length)(hb:b.frm.length=m.aa.length):(jh a b).1.frm.length=m.aa.length:=by
 unfold jh
 rw[if_pos (by omega)]
 simp only[mO];exact ha
theorem I6{m:aP}(a b:List Wh)(ha:∀w∈a,w.frm.length=m.aa.length)(hb:∀w∈b,w.frm.length=m.aa.length):∀p,p≤a.length→p≤b.length→∀w∈jV a b p,w.frm.length=m.aa.length
 | 0,_,_,w,hw=>ha w hw
 | p+1,h1,h2,w,hw=>by
   simp only[jV]at hw
   rcases aLk hw with hw | rfl
   · exact I6 a b ha hb p (by omega) (by omega) w hw
   · exact MX (ha _ (af (by omega))) (hb _ (af (by omega)))
theorem Kk{m:aP}{N:Nat}{out:List World}{x:World}(ho:∀y∈out,WOk m N y)(hx:WOk m N x):∀y∈ji out x,WOk m N y:=by
 intro y hy
 unfold ji at hy
 split at hy
 · rename_i h
   rcases aLk hy with hy | rfl
   · exact ho y hy
   · obtain⟨s1,s2,s3,s4⟩:=ho _ (af h.1)
     refine⟨hx.tg,?_,I6 _ _ s3 hx.fr _ (Nat.min_le_left _ _) (Nat.min_le_right _ _),I5 _ _ s4 hx.ti _ (Nat.min_le_left _ _) (Nat.min_le_right _ _)⟩
     show(jV _ _ _).length=_
     rw[iY];exact s2
 · rcases List.mem_append.1 hy with hy | hy
   · rcases List.mem_append.1 hy with hy | hy
     · exact ho y (List.mem_of_mem_take hy)
     · rw[List.mem_singleton.1 hy];exact hx
   · exact ho y (List.mem_of_mem_drop hy)
theorem Cb{m:aP}{N:Nat}{l:List World}(hl:∀x∈l,WOk m N x):∀j,j≤l.length→∀y∈qg l j,WOk m N y
 | 0,_,y,hy=>by simp[qg]at hy
 | j+1,h,y,hy=>Kk (Cb hl j (by omega)) (hl _ (af (by omega))) y hy
theorem Kl{m:aP}{N:Nat}{i j:Nat}{t:Int}{x:World}(h:WOk m N x)(hi:i<N)(hj:j<N):WOk m N (tZ i j t x):=by
 obtain⟨s1,s2,s3,s4⟩:=h
 refine⟨by simpa [tZ,Hm]using s1,by simpa [tZ]using s2,fun w hw=>?_,fun w hw=>?_⟩
 · simp only[tZ]at hw
   rcases aLk hw with hw | rfl
   · rcases aLk hw with hw | rfl
     · exact s3 w hw
     · rw[tP];exact s3 _ (af (by omega))
   · rw[tP];exact s3 _ (af (by omega))
 · simp only[tZ]at hw
   rcases aLk hw with hw | rfl
   · rcases aLk hw with hw | rfl
     · exact s4 w hw
     · exact Ff (s4 _ (af (by omega)))
   · exact Ff (s4 _ (af (by omega)))
theorem vi{m:aP}{N:Nat}{ws:List World}(h:∀x∈ws,WOk m N x){i j:Nat}{t:Int}(hi:i<N)(hj:j<N):∀k,k≤ws.length→∀x∈gr i j t ws k,WOk m N x
 | 0,_,x,hx=>h x hx
 | k+1,hk,x,hx=>by
   simp only[gr,wJ]at hx
   split at hx
   · rcases List.mem_append.1 hx with hx | hx
     · exact vi h hi hj k (by omega) x hx
     · rw[List.mem_singleton.1 hx];exact Kl (h _ (af (by omega))) hi hj
   · exact vi h hi hj k (by omega) x hx
theorem Fg{m:aP}{N:Nat}{b:Bel}(hb:BOk m N b)(i j t:Int):BOk m N (if(jm m b i j t).2=0 then(jm m b i j t).1 else b):=by
 split
 · rename_i h0
   unfold jm at h0 ⊢
   split at h0
   · simp at h0
   · rename_i c1
     rw[if_neg c1]
     split at h0
     · simp at h0
     · rename_i c2
       rw[if_neg c2]
       split at h0
       · simp at h0
       · rename_i c3
         rw[if_neg c3]
         split at h0
         · simp at h0
         · rename_i c4
           rw[if_neg c4]
           have t0:=(hb.ws _ (af (l:=b.aq) (j:=0) (by have:=hb.w1;omega))).tg
           have ln:=qi i.toNat j.toNat t b.aq b.aq.length
           have w1:=hb.w1
           refine⟨?_,by simp only;omega,hb.n1,hb.n2,?_⟩
           · simp only[qh]
             cases hn:(gr i.toNat j.toNat t b.aq b.aq.length).length with
             | zero=>omega
             | succ n=>exact(wC _ _).2.2
           · exact Cb (vi hb.ws (by omega) (by omega) _ (aLs _)) _ (aLs _)
 · exact hb
theorem Fh{m:aP}(hm:m.ok){N:Nat}{n:Int}{s:BSt}(hb:BOk m N s.b):BOk m N (aE.lW m n s).b:=by
 unfold aE.lW
 simp only
 split
 · exact Fg hb _ _ _
 · split
   · exact Hn hm hb _ _ _ _
   · exact Ho hm hb _ _ _ _ _
theorem Fi{m:aP}{n:Int}{s:BSt}:s.t≤(aE.lW m n s).t∧(aE.lW m n s).t≤s.t+60:=by
 have h1:=s.d.eE 60
 have h2:=s.d.eG (n:=60) (by omega)
 unfold aE.lW
 simp only
 split
 · simp only;omega
 · split<;>(simp only;omega)
theorem Ax{m:aP}(hm:m.ok){N:Nat}{n:Int}{s:BSt}(hb:BOk m N s.b)(hd:s.d.dO)(ht:s.t=100):∀k,BOk m N (aE.xK m n s k).b∧(aE.xK m n s k).d.dO∧100≤(aE.xK m n s k).t∧(aE.xK m n s k).t≤100+60*k
 | 0=>⟨hb,hd,by simp[aE.xK,ht],by simp[aE.xK,ht]⟩
 | k+1=>by
   obtain⟨h1,h2,h3,h4⟩:=Ax hm hb hd ht k
   have ht:=Fi (m:=m) (n:=n) (s:=aE.xK m n s k)
   exact⟨Fh hm h1,C9 h2,by simp only[aE.xK];omega,by simp only[aE.xK];omega⟩
theorem yD{n:Nat}(h:n≤3):fN (rC n)=true:=by
 match n,h with
 | 0,_=>decide
 | 1,_=>decide
 | 2,_=>decide
 | 3,_=>decide
theorem s5(d:aE){n:Int}(hn:1≤n):∀k,∀x∈(d.m0 n k).1,0≤x∧x<n
 | 0,x,hx=>by simp[aE.m0]at hx
 | k+1,x,hx=>by
   simp only[aE.m0,List.mem_append,List.mem_singleton]at hx
   rcases hx with hx | rfl
   · exact s5 d hn k x hx
   · exact⟨aE.eE _ _,aE.eG _ hn⟩
theorem Ay(d:aE):1≤d.pH∧d.pH≤3:=by
 have h1:=d.eE 3
 have h2:=d.eG (n:=3) (by omega)
 unfold aE.pH;omega
theorem Da{m:aP}(hm:m.ok)(h1:1≤m.aa.length)(d:aE):
 (tK m (rC d.pH) (d.nJ m).1 ((d.nJ m).2.next 100).1)=(⟨[⟨rC d.pH,iG m (d.nJ m).1 ((d.nJ m).2.next 100).1 (rC d.pH).length⟩]⟩,0):=by
 have pb:=Ay d
 have tl:=lV d.pH
 have sl:(d.nJ m).1.length=d.pH:=aE.kY _ _ _
 have t0:=(d.nJ m).2.eE 100
 have t9:=(d.nJ m).2.eG (n:=100) (by omega)
 have np:=hm.np
 unfold tK
 rw[if_pos (by omega),if_pos (yD (by omega))]
 have:(List.range (rC d.pH).length).find? (fun i=> !decide ((gT m (nth (d.nJ m).1 i) ((d.nJ m).2.next 100).1).2=0))=none:=by
  rw[List.find?_eq_none]
  intro i hi
  have hi:i<(d.nJ m).1.length:=by rw[sl,←tl];exact aLu.1 hi
  have:=s5 (d.next 3).2 (n:=m.aa.length) (by omega) d.pH _ (af hi)
  have:=(Fe hm this.1 this.2 (t:=((d.nJ m).2.next 100).1) ⟨by omega,by omega⟩).1
  have e:(gT m (nth (d.nJ m).1 i) ((d.nJ m).2.next 100).1).2=0:=this
  simp[e]
 rw[this]
theorem Fj{m:aP}(hm:m.ok)(h1:1≤m.aa.length)(d:aE):BOk m d.pH (d.K1 m).b:=by
 have pb:=Ay d
 have tl:=lV d.pH
 have sl:(d.nJ m).1.length=d.pH:=aE.kY _ _ _
 have t0:=(d.nJ m).2.eE 100
 have t9:=(d.nJ m).2.eG (n:=100) (by omega)
 have np:=hm.np
 unfold aE.K1
 rw[Da hm h1]
 refine⟨by simp,by simp,by omega,by omega,fun x hx=>?_⟩
 rw[List.mem_singleton.1 hx]
 refine⟨tl,by simp[tl],fun w hw=>?_,fun w hw=>by
  simp only[iG,List.mem_map,aLu]at hw
  obtain⟨i,hi,rfl⟩:=hw
  exact MV ⟨by omega,by omega⟩⟩
 simp only[iG,List.mem_map,aLu]at hw
 obtain⟨i,hi,rfl⟩:=hw
 have hi:i<(d.nJ m).1.length:=by rw[sl,←tl];exact hi
 have:=s5 (d.next 3).2 (n:=m.aa.length) (by omega) d.pH _ (af hi)
 exact(Fe hm this.1 this.2 ⟨by omega,by omega⟩).2
theorem MY{m:aP}(hm:m.ok)(h1:1≤m.aa.length){d:aE}(hd:d.dO):BOk m d.pH (d.s0 m).1∧(d.s0 m).2.dO:=by
 have l0:(d.K1 m).d.dO:=aE.a7 (aE.a7 (aE.o5 (aE.a7 hd 3) _ _) _) _
 obtain⟨h1,h2, -⟩:=Ax hm (Fj hm h1 d) l0 rfl (n:=d.pH) (d.MT m)
 exact⟨h1,h2⟩
theorem MZ{m:aP}(hm:m.ok)(d:aE)(hd:d.dO)(n:Nat)(hn:n≤12)(a b c e f g h i j k:D):
 exS aH K.od ⟨[.bp 0 0,a,.bp 1 0,.bp 2 0,I n,.ref 3 0 0,.ref 4 0 0,I 0,b,c,e,f,g,h,i,j,k,.und],[d.obj,.box (ae m),.box [.nil],.arr 1 false 0 [],.arr 1 false 0 []]⟩=
 some (.exit 0,⟨[.bp 0 0,.und,.bp 1 0,.bp 2 0,I n,.ref 3 0 n,.ref 4 0 n,I n,.und,.und,.und,.und,.und,.und,.und,.und,.und,.und],[(d.m0 m.aa.length n).2.obj,.box (ae m),.box [.nil],.arr 1 false 0 (ints (rC n)),.arr 1 false 0 (ints (d.m0 m.aa.length n).1)]⟩):=by
 refine dw (fun k=>⟨[.bp 0 0,.und,.bp 1 0,.bp 2 0,I n,.ref 3 0 k,.ref 4 0 k,I k,.und,.und,.und,.und,.und,.und,.und,.und,.und,.und],[(d.m0 m.aa.length k).2.obj,.box (ae m),.box [.nil],.arr 1 false 0 (ints (rC k)),.arr 1 false 0 (ints (d.m0 m.aa.length k).1)]⟩) n rfl ?_ ?_ (by simp)
 · intro j hj
   have np:=hm.np
   have tl:=lV j
   have sl:=d.kY m.aa.length j
   have lt:=aE.o5 hd m.aa.length j
   simp only[rC,aE.m0]
   generalize rC j=ts at*
   generalize d.m0 m.aa.length j=s at*
   obtain⟨ss,d1⟩:=s
   simp only at sl lt ⊢
   have h1:=ij d1 m.aa.length (by omega) lt
   generalize d1.next m.aa.length=r at*
   obtain⟨x,d2⟩:=r
   simp only at h1 ⊢
   simp(disch:=omega)only[go_sem,K.j4,↓reduceIte,ints,h1,reduceAdd,reduceSub]
 · have tl:=lV n
   have sl:=d.kY m.aa.length n
   simp(disch:=omega)only[go_sem,K.j4,↓reduceIte,ints,reduceAdd,reduceSub]
theorem M0{m:aP}(hm:m.ok){N:Nat}(n:Int)(n1:1≤n)(n2:n≤12)(tags bU:List Int)(s:BSt)(hd:s.d.dO)(hb:BOk m N s.b)(ht:s.t=100)(p1 p2:Bool)(kk:Nat)(hK:kk≤100):
 nN true [1,5,6,7,11,12,13,14,15,16,17] (exS aH K.bI) ⟨[.bp 0 0,.und,.bp 1 0,.bp 2 0,I n,.und,.und,.und,.bp 5 0,I s.t,I kk,.und,.und,.und,.und,.und,.und,.und],blH m p1 p2 tags bU s⟩=
 some (.exit 2,⟨[.bp 0 0,.und,.bp 1 0,.bp 2 0,I n,.und,.und,.und,.bp 5 0,I (aE.xK m n s kk).t,I 0,.und,.und,.und,.und,.und,.und,.und],blH m p1 p2 tags bU (aE.xK m n s kk)⟩):=by
 have key:=zd (gc:=true) (dead:=[1,5,6,7,11,12,13,14,15,16,17]) (body:=exS aH K.bI)
  (fun k=>⟨[.bp 0 0,.und,.bp 1 0,.bp 2 0,I n,.und,.und,.und,.bp 5 0,I (aE.xK m n s k).t,I ((kk-k:Nat):Int),.und,.und,.und,.und,.und,.und,.und],blH m p1 p2 tags bU (aE.xK m n s k)⟩)
  (p:=(.exit 2,⟨[.bp 0 0,.und,.bp 1 0,.bp 2 0,I n,.und,.und,.und,.bp 5 0,I (aE.xK m n s kk).t,I 0,.und,.und,.und,.und,.und,.und,.und],blH m p1 p2 tags bU (aE.xK m n s kk)⟩)) kk ?_ ?_
 · exact key
 · intro k hk
   obtain⟨g1,g2,g3,g4⟩:=Ax hm (n:=n) hb hd ht k
   have:=MU hm n n1 n2 tags bU (aE.xK m n s k) g2 (g1.sz hm) (by omega) (by omega) (kk-(k+1)) (by omega) p1 p2
   rw[show(((kk-(k+1):Nat):Int)+1)=((kk-k:Nat):Int)by omega]at this
   exact this
 · refine dq ?_ (by simp)
   simp only[Nat.sub_self]
   simp(disch:=omega)only[go_sem,K.bI,↓reduceIte,blH,reduceAdd,reduceSub]
theorem M1{m:aP}(hm:m.ok)(h1:1≤m.aa.length)(d:aE)(hd:d.dO):aH 0 N.cC [.bp 0 0,.t m.e] [d.obj]=some (.t (d.s0 m).1.e,[(d.s0 m).2.obj]):=by
 refine av K.lF rfl ?_
 have np:=hm.np
 have pb:=Ay d
 have eP:(d.pH:Int)=1+(d.next 3).1:=by have:=d.eE 3;unfold aE.pH;omega
 have g0:=Fj hm h1 d
 have e0:=Da hm h1 d
 have a1:=ij d 3 (by omega) hd
 have l1:=aE.a7 hd 3
 have q1:=fun a b c e f g h i j k=>MZ hm (d.next 3).2 l1 d.pH (by omega) a b c e f g h i j k
 have eS:(d.next 3).2.m0 m.aa.length d.pH=d.nJ m:=rfl
 rw[eS]at q1
 have lS:(d.nJ m).2.dO:=aE.o5 l1 _ _
 have a2:=ij (d.nJ m).2 100 (by omega) lS
 have l2:=aE.a7 lS 100
 have a3:=ij ((d.nJ m).2.next 100).2 5 (by omega) l2
 have l3:=aE.a7 l2 5
 have k0:=((d.nJ m).2.next 100).2.eE 5
 have k9:=((d.nJ m).2.next 100).2.eG (n:=5) (by omega)
 have eK:(d.MT m:Int)=(((d.nJ m).2.next 100).2.next 5).1:=by unfold aE.MT;omega
 have st:=G0 hm (rC d.pH) (d.nJ m).1 (by rw[lV];omega) ((d.nJ m).2.next 100).1
 have tl:=lV d.pH
 have sl:(d.nJ m).1.length=d.pH:=aE.kY _ _ _
 rw[e0]at st
 have b0:d.K1 m=⟨⟨[⟨rC d.pH,iG m (d.nJ m).1 ((d.nJ m).2.next 100).1 (rC d.pH).length⟩]⟩,100,(((d.nJ m).2.next 100).2.next 5).2⟩:=by unfold aE.K1;rw[e0]
 have q2:=fun p1 p2=>M0 hm d.pH (by omega) (by omega) (rC d.pH) (d.nJ m).1 (d.K1 m) (by rw[b0];exact l3) g0 rfl p1 p2 (d.MT m) (by omega)
 have q2:=fun p1 p2 a b c e f g h i j k l=>xv (vs:=[.bp 0 0,a,.bp 1 0,.bp 2 0,I d.pH,b,c,e,.bp 5 0,I 100,I (d.MT m),f,g,h,i,j,k,l]) (q2 p1 p2)
 have eF:aE.xK m d.pH (d.K1 m) (d.MT m)=d.adA m:=rfl
 rw[eF]at q2
 unfold aE.s0
 rw[b0]at q2
 generalize d.adA m=F at*
 generalize (rC d.pH)=tags at*
 generalize iG m (d.nJ m).1 ((d.nJ m).2.next 100).1 tags.length=sw at*
 generalize d.MT m=kk at*
 generalize (((d.nJ m).2.next 100).2.next 5)=z3 at*
 generalize ((d.nJ m).2.next 100)=z2 at*
 generalize d.nJ m=z1 at*
 generalize d.next 3=z0 at*
 generalize d.pH=n at*
 obtain⟨x3,d3⟩:=z3
 obtain⟨x2,d2⟩:=z2
 obtain⟨ss,d1⟩:=z1
 obtain⟨x0,d0⟩:=z0
 obtain⟨⟨wf⟩,tf,df⟩:=F
 simp only[List.map_cons,List.map_nil,blH]at*
 have q2:∀p1 p2 a b c e f g h i j k l,exS aH K.oe _=_:=q2
 simp(disch:=omega)only[go_sem,K.cC,↓reduceIte,ints,a1,eP.symm,q1,a2,a3,st,eK.symm,tl,sl,q2,reduceAdd,reduceSub]
def aE.spread(d:aE)(m:aP)(fl:List Spn):Wh×aE:=
 let p:=d.next m.aa.length
 let t:=p.2.next 200
 let s:=aan m fl [p.1] t.1
 let o:=t.2.one 2
 if o.1=true then
  let f:=o.2.af9 m
  let a:=f.2.next 100
  let r:=Uc m fl m f.1 s.1 (s.1.time+a.1)
  if r.2=0 then(r.1,a.2)else(s.1,a.2)
 else(s.1,o.2)
structure Mch where
 kind:Int
 num:Int
 pl:List Int
instance : Dat Mch := ⟨⟨0, 0, []⟩⟩
abbrev Mch.e(x:Mch):T:= .agg [tI x.kind,tI x.num,tL x.pl]
@[go_sem] theorem aaS (l : List Mch) : o9 3 (l.map Mch.e) = true := by cases l <;> rfl
theorem qj{n:Nat}{p:Nat→Bool}{x:Int}:x∈eW n p↔∃k:Nat,x=k∧k<n∧p k=true:=by
 unfold eW
 simp only[List.mem_map,List.mem_filter,aLu]
 constructor
 · rintro ⟨k,⟨h1,h2⟩,rfl⟩;exact⟨k,rfl,h1,h2⟩
 · rintro ⟨k,rfl,h1,h2⟩;exact⟨k,⟨h1,h2⟩,rfl⟩
theorem Bc{n:Nat}{p:Nat→Bool}{k:Nat}:(k:Int)∈eW n p↔k<n∧p k=true:=by
 rw[qj]
 constructor
 · rintro ⟨j,h,h1,h2⟩
   obtain rfl:k=j:=by omega
   exact⟨h1,h2⟩
 · rintro ⟨h1,h2⟩;exact⟨k,rfl,h1,h2⟩
theorem Db(l:List World)(hl:l.length≤4294967296)(f:Nat)(bs:List (List T))(p:World→Bool)(h:∀x,x∈l→aH 0 f (.t x.e::fW bs.length) (aX bs)=some (B (p x),aX bs)):
 aH 0 N.aI [.t (.sl (l.map World.e)),.fn f (fW bs.length)] (aX bs)=
 some (I (match (List.range l.length).find? (fun j=>p (nth l j))with | some j=>(j:Int) | none=> -1),aX bs):=by
 refine av K.c7 rfl ?_
 have loop:∀a b:D,exS aH K.fq ⟨[.t (.sl (l.map World.e)),.fn f (fW bs.length),a,b,I l.length,I 0],aX bs⟩=
  some (match (List.range l.length).find? (fun j=>p (nth l j))with
   | some j=>(.ret,⟨[.t (.sl (l.map World.e)),.fn f (fW bs.length),I j,I j,I l.length,I j],aX bs⟩)
   | none=>(.exit 0,⟨[.t (.sl (l.map World.e)),.fn f (fW bs.length),.und,.und,I l.length,I l.length],aX bs⟩)):=by
  intro a b
  refine cP (fun j=>⟨[.t (.sl (l.map World.e)),.fn f (fW bs.length),.und,.und,I l.length,I j],aX bs⟩) l.length (fun j=>p (nth l j)) _ _ rfl ?_ ?_ ?_ (by simp)
  · intro j hj hp
    have hc:=nY (h _ (af hj)) rfl
    simp(disch:=omega)only[go_sem,K.bS,↓reduceIte,hc,hp]
  · intro j hj hp
    have hc:=nY (h _ (af hj)) rfl
    simp(disch:=omega)only[go_sem,K.bS,↓reduceIte,hp,hc]
    simp
  · simp(disch:=omega)only[go_sem,K.bS,↓reduceIte]
 simp(disch:=omega)only[go_sem,K.aI,↓reduceIte,loop]
 cases hf:(List.range l.length).find? (fun j=>p (nth l j))with
 | some j=>simp(disch:=omega)only[go_sem,↓reduceIte]
 | none=>simp(disch:=omega)only[go_sem,↓reduceIte]
theorem Dc{α:Type} [Dat α]{l:List α}{p:α→Bool}:((List.range l.length).find? fun j=>p (nth l j)).isSome=l.any p:=by
 rw[List.isSome_find?,Bool.eq_iff_iff,List.any_eq_true,List.any_eq_true]
 constructor
 · rintro ⟨j,hj,h⟩
   exact⟨_,af (aLu.1 hj),h⟩
 · rintro ⟨x,hx,h⟩
   obtain⟨j,hj⟩:=aLf.1 hx
   exact⟨j,aLu.2 (aLe.1 hj).1,by rw[bP hj];exact h⟩
theorem M3{α:Type} [Dat α](l:List α)(p:α→Bool):l.any p=(List.range l.length).any fun i=>p (nth l i):=by
 rw[← Dc,List.isSome_find?]
theorem yP(l:List World)(hl:l.length≤4294967296)(f:Nat)(bs:List (List T))(p:World→Bool)(h:∀x,x∈l→aH 0 f (.t x.e::fW bs.length) (aX bs)=some (B (p x),aX bs)):
 aH 0 N.aA [.t (.sl (l.map World.e)),.fn f (fW bs.length)] (aX bs)=some (B (l.any p),aX bs):=by
 refine av K.cH rfl ?_
 have h:=Db l hl f bs p h
 have hc:=xy aH bs f _ 0 (.sl (l.map World.e)) h rfl
 have e:=Dc (l:=l) (p:=p)
 cases hf:(List.range l.length).find? (fun j=>p (nth l j))with
 | some j=>rw[hf]at e hc;simp(disch:=omega)only[go_sem,K.aA,↓reduceIte,←e,hc]
 | none=>rw[hf]at e hc;simp(disch:=omega)only[go_sem,K.aA,↓reduceIte,←e,hc,Option.isSome_none]
def Vh(aR t:Int)(p:Nat)(x:World):Bool:=decide (0≤aR∧aR<x.whr.length)&&(decide (p<(nth x.whr aR.toNat).frm.length)&&decide (nth (nth x.whr aR.toNat).frm p≤t))
theorem M4(x:World)(hx:x.sz)(aR t:Int)(p:Nat)(hp:p≤1000000):
 aH 0 N.bD [.t x.e,.bp 0 0,.bp 1 0,.bp 2 0] [.box [I aR],.box [I p],.box [I t]]=some (B (Vh aR t p x),[.box [I aR],.box [I p],.box [I t]]):=by
 refine av K.j5 rfl ?_
 have li:=yN aR 0 (x.whr.length-1)
 obtain⟨h1,h2,h3⟩:=hx
 unfold Vh
 by_cases c:0≤aR∧aR<x.whr.length
 · obtain⟨c1,c2⟩:=c
   have e1:(x.whr.map Wh.e)[aR.toNat]?=some (nth x.whr aR.toNat).e:=cI _ (by omega)
   have h4:=h3 _ (af (l:=x.whr) (j:=aR.toNat) (by omega))
   have li':decide (0≤aR∧aR≤(x.whr.length:Int)-1)=true:=by simp;omega
   rw[li']at li
   generalize nth x.whr aR.toNat=w at*
   obtain⟨tags,whr⟩:=x
   obtain⟨time,frm⟩:=w
   simp only at*
   by_cases c3:p<frm.length
   · simp(disch:=omega)only[go_sem,K.bD,↓reduceIte,reduceAdd,reduceSub,li,e1,c1,c2,c3,and_self]
   · simp(disch:=omega)only[go_sem,K.bD,↓reduceIte,reduceAdd,reduceSub,li,e1,c1,c2,c3,and_self]
 · have li':decide (0≤aR∧aR≤(x.whr.length:Int)-1)=false:=by simp;omega
   rw[li']at li
   obtain⟨tags,whr⟩:=x
   simp only at*
   simp(disch:=omega)only[go_sem,K.bD,↓reduceIte,reduceAdd,reduceSub,li,c]
theorem P4(b:Bel)(hb:b.sz)(aR t:Int)(p:Nat)(hp:p≤1000000):
 aH 0 N.b6 [I p,.bp 0 0,.bp 1 0,.bp 2 0] [.box [.t (.sl (b.aq.map World.e))],.box [I aR],.box [I t]]=some (B (b.aq.any (Vh aR t p)),[.box [.t (.sl (b.aq.map World.e))],.box [I aR],.box [I t]]):=by
 refine av K.lJ rfl ?_
 have cf:=yP b.aq (by have:=hb.1;omega) N.bD [[tI aR],[tI p],[tI t]] (Vh aR t p) (fun x hx=>M4 x (hb.2 x hx) aR t p hp)
 have cf:aH 0 N.aA [.t (.sl (b.aq.map World.e)),.fn N.bD [.bp 0 0,.bp 1 0,.bp 2 0]] [.box [I aR],.box [I p],.box [I t]]=some (B (b.aq.any (Vh aR t p)),[.box [I aR],.box [I p],.box [I t]]):=cf
 simp(disch:=omega)only[go_sem,K.b6,↓reduceIte,reduceAdd,reduceSub,cf]
theorem M5(b:Bel)(aR t:Int)(p:Nat):b.aq.any (Vh aR t p)=Ba b aR t p:=by
 unfold Ba
 rw[M3]
 congr 1
 funext i
 unfold Vh
 congr 1
 rw[Bool.eq_iff_iff]
 simp only[aLr,decide_eq_true_eq,mV,Bc]
theorem Hp(b:Bel)(hb:b.sz)(aR t:Int):aH 0 N.dv [.t b.e,I aR,I t] []=some (.t (tL (CW b aR t)),[]):=by
 refine av K.nu rfl ?_
 have wh:=Iz 64 (by omega) N.b6 [[.sl (b.aq.map World.e)],[tI aR],[tI t]] (Ba b aR t) (fun p hp=>by rw[← M5];exact P4 b hb aR t p (by omega))
 have wh:aH 0 N.eM [I 64,.fn N.b6 [.bp 0 0,.bp 1 0,.bp 2 0]] [.box [.t (.sl (b.aq.map World.e))],.box [I aR],.box [I t]]=some (.t (tL (CW b aR t)),[.box [.t (.sl (b.aq.map World.e))],.box [I aR],.box [I t]]):=wh
 obtain⟨ws⟩:=b
 simp only at wh
 generalize CW ⟨ws⟩ aR t=r at*
 simp(disch:=omega)only[go_sem,K.dv,↓reduceIte,wh,reduceAdd,reduceSub]
theorem M6(b:Bel)(aR t:Int):(CW b aR t).length≤64:=mz _ _
theorem Fk(s:Wh)(t:Int):(mV s t).length≤s.frm.length:=mz _ _
end Go.Ev
namespace Go.Ev
open Go
variable [Lib] [cz] [bZ] [gU] [gJ] [kG] [gV] [gW] [jC] [gX] [fT] [eR]
theorem Dd(l:List Wh)(hl:l.length≤4294967296)(f:Nat)(bs:List (List T))(p:Wh→Bool)(h:∀x,x∈l→aH 0 f (.t x.e::fW bs.length) (aX bs)=some (B (p x),aX bs)):
 aH 0 N.az [.t (.sl (l.map Wh.e)),.fn f (fW bs.length)] (aX bs)=
 some (I (match (List.range l.length).find? (fun j=>p (nth l j))with | some j=>(j:Int) | none=> -1),aX bs):=by
 refine av K.bR rfl ?_
 have loop:∀a b:D,exS aH K.cW ⟨[.t (.sl (l.map Wh.e)),.fn f (fW bs.length),a,b,I l.length,I 0],aX bs⟩=
  some (match (List.range l.length).find? (fun j=>p (nth l j))with
   | some j=>(.ret,⟨[.t (.sl (l.map Wh.e)),.fn f (fW bs.length),I j,I j,I l.length,I j],aX bs⟩)
   | none=>(.exit 0,⟨[.t (.sl (l.map Wh.e)),.fn f (fW bs.length),.und,.und,I l.length,I l.length],aX bs⟩)):=by
  intro a b
  refine cP (fun j=>⟨[.t (.sl (l.map Wh.e)),.fn f (fW bs.length),.und,.und,I l.length,I j],aX bs⟩) l.length (fun j=>p (nth l j)) _ _ rfl ?_ ?_ ?_ (by simp)
  · intro j hj hp
    have hc:=nY (h _ (af hj)) rfl
    simp(disch:=omega)only[go_sem,K.bg,↓reduceIte,hc,hp]
  · intro j hj hp
    have hc:=nY (h _ (af hj)) rfl
    simp(disch:=omega)only[go_sem,K.bg,↓reduceIte,hp,hc]
    simp
  · simp(disch:=omega)only[go_sem,K.bg,↓reduceIte]
 simp(disch:=omega)only[go_sem,K.az,↓reduceIte,loop]
 cases hf:(List.range l.length).find? (fun j=>p (nth l j))with
 | some j=>simp(disch:=omega)only[go_sem,↓reduceIte]
 | none=>simp(disch:=omega)only[go_sem,↓reduceIte]
theorem yQ(l:List Wh)(hl:l.length≤4294967296)(f:Nat)(bs:List (List T))(p:Wh→Bool)(h:∀x,x∈l→aH 0 f (.t x.e::fW bs.length) (aX bs)=some (B (p x),aX bs)):
 aH 0 N.ak [.t (.sl (l.map Wh.e)),.fn f (fW bs.length)] (aX bs)=some (B (l.any p),aX bs):=by
 refine av K.bJ rfl ?_
 have h:=Dd l hl f bs p h
 have hc:=xy aH bs f _ 0 (.sl (l.map Wh.e)) h rfl
 have e:=Dc (l:=l) (p:=p)
 cases hf:(List.range l.length).find? (fun j=>p (nth l j))with
 | some j=>rw[hf]at e hc;simp(disch:=omega)only[go_sem,K.ak,↓reduceIte,←e,hc]
 | none=>rw[hf]at e hc;simp(disch:=omega)only[go_sem,K.ak,↓reduceIte,←e,hc,Option.isSome_none]
theorem Az{l:List Int}:fN l=true↔l.Nodup∧∀x∈l,1≤x∧x≤65535:=by
 constructor
 · intro h
   refine⟨jU h,fun x hx=>?_⟩
   simp only[fN,aLx,aLu,ox,decide_eq_true_eq]at h
   obtain⟨j,hj⟩:=aLf.1 hx
   have:=h j (aLe.1 hj).1
   rw[bP hj]at this
   exact⟨this.1,this.2.1⟩
 · rintro ⟨h1,h2⟩
   simp only[fN,aLx,aLu,ox,decide_eq_true_eq]
   intro j hj
   obtain⟨a,b⟩:=h2 _ (af hj)
   refine⟨a,b,Decidable.byContradiction fun c=>?_⟩
   obtain⟨d,e⟩:=xE (l:=l.take j) (x:=nth l j) (by omega)
   have z:0≤bz (l.take j) (nth l j):=by omega
   generalize bz (l.take j) (nth l j)=k at*
   rw[List.length_take]at d
   have k1:k.toNat<j:=by omega
   have e1:(l.take j)[k.toNat]?=l[k.toNat]?:=List.getElem?_take_of_lt k1
   have e2:l[k.toNat]?=some l[k.toNat]:=aLc (by omega)
   rw[bP (e1.trans e2),←bP e2]at e
   have n2:=(List.getElem?_inj (by omega:k.toNat<l.length) h1).1 (show l[k.toNat]?=l[j]? by rw[ff (by omega),ff hj,e])
   omega
theorem P5{l:List Int}{lo hi:Int}:RD l lo hi=true↔l.Pairwise (· < ·)∧∀x∈l,lo≤x∧x≤hi:=by
 have e:RD l lo hi=true↔∀j,j<l.length→lo≤nth l j∧nth l j≤hi∧(0<j→nth l (j-1)<nth l j):=by
  simp only[RD,Bool.not_eq_true',List.any_eq_false,aLu,Mr,Bool.not_eq_true]
  constructor
  · intro h j hj
    have:=h j hj
    exact Decidable.byContradiction fun c=>this (decide_eq_false c)
  · intro h j hj c
    exact(of_decide_eq_false c) (h j hj)
 rw[e]
 constructor
 · intro h
   refine⟨?_,fun x hx=>?_⟩
   · have key:∀d i,i+d+1<l.length→nth l i<nth l (i+d+1):=by
      intro d
      induction d with
      | zero=>intro i hi;have:=(h (i+0+1) hi).2.2 (by omega);simpa using this
      | succ d ih=>
        intro i hi
        have a:=ih i (by omega)
        have b:=(h (i+(d+1)+1) hi).2.2 (by omega)
        rw[show i+(d+1)+1-1=i+d+1 by omega]at b
        omega
     rw[List.pairwise_iff_getElem]
     intro i j hi hj hij
     have:=key (j-i-1) i (by omega)
     rw[show i+(j-i-1)+1=j by omega,bP (aLc hi),bP (aLc hj)]at this
     exact this
   · obtain⟨j,hj⟩:=aLf.1 hx
     have:=h j (aLe.1 hj).1
     rw[bP hj]at this
     exact⟨this.1,this.2.1⟩
 · rintro ⟨h1,h2⟩ j hj
   refine⟨(h2 _ (af hj)).1,(h2 _ (af hj)).2,fun h0=>?_⟩
   have:=(List.pairwise_iff_getElem.1 h1) (j-1) j (by omega) hj (by omega)
   rwa [← bP (aLc (by omega:j-1<l.length)),←bP (aLc hj)]at this
theorem Km(l:List Int):RD (jO l) 1 65535=fN l:=by
 rw[Bool.eq_iff_iff,P5,Az]
 have p:=kX l
 have u:=wI l
 constructor
 · rintro ⟨h1,h2⟩
   refine⟨p.nodup_iff.1 (h1.imp fun h=>by omega),fun x hx=>h2 x (p.mem_iff.2 hx)⟩
 · rintro ⟨h1,h2⟩
   have nd:(jO l).Nodup:=p.nodup_iff.2 h1
   refine⟨?_,fun x hx=>h2 x (p.mem_iff.1 hx)⟩
   have:=List.Pairwise.and u nd
   exact this.imp fun h=>by omega
theorem M7(l:List Int)(hl:l.length≤1000000):aH 0 N.fC [.t (tL l)] []=some (B (fN l),[]):=by
 refine av K.pG rfl ?_
 have v:=Au l
 have s:=Av l hl
 have r:=EW (jO l) 1 65535 (by rw[mZ];omega)
 rw[Km]at r
 simp(disch:=omega)only[go_sem,K.fC,↓reduceIte,v,s,r,reduceAdd,reduceSub]
end Go.Ev
namespace Go.Ev
open Go
variable [Lib] [cz] [bZ] [gV] [gW] [jC] [gX]
def smE(into:Option (List Int)):ah:=match into with
 | none=>[]
 | some s=>[.box [.t (tL s)]]
def smD(into:Option (List Int)):D:=match into with
 | none=> .fn N.dt []
 | some _=> .fn N.bV [.bp 5 0]
def smK(into:Option (List Int)):Nat:=match into with
 | none=>5
 | some _=>6
@[go_sem] theorem ahs (H : ah) (len j : Nat) (ts : List T) (h : j < len) : Za H len 1 false (.t (.agg ts)) j = (ts[j]?).map fun t => (.t t, H) := by
 have h0:len≠0:=by omega
 unfold Za BE
 rw[if_neg h0,if_pos h]
 unfold vv cut
 simp only[D.isAgg,D.cells,T.cells,if_true,Nat.mul_one,List.length_map]
 by_cases hj:j<ts.length
 · rw[if_pos (by omega),aLc hj]
   have e:((ts.map D.t).drop j).take 1=[D.t ts[j]]:=by
    rw[List.drop_eq_getElem_cons (by simpa using hj)];simp
   rw[e];rfl
 · rw[if_neg (by omega),aLm (by omega)];rfl
def M8(into:Option (List Int))(l:List Int)(q:Nat)(x:Int):Bool:=decide (x≤2147483648∧x<nth l q)&&Me into q
theorem Vi(into:Option (List Int))(hi:∀s,into=some s→s.length≤64)(l:List Int)(hl:l.length≤64)(hb:bnd l)(p:Int)(q:Nat)(hq:q<l.length)(n t:Int)(ch:Bool):
 aH 0 N.bu [I p,I q,I n,.bp 0 0,.bp 1 0,.bp 2 0,.bp 3 0] (.box [I t]:: .box [.ref 4 0 l.length]:: .box [smD into]:: .box [B ch]::A3 l::smE into)=
  some (.tup [],if M8 into l q (max n t)=true then .box [I t]:: .box [.ref 4 0 l.length]:: .box [smD into]:: .box [B true]::A3 (l.set q (max n t))::smE into
   else .box [I t]:: .box [.ref 4 0 l.length]:: .box [smD into]:: .box [B ch]::A3 l::smE into):=by
 refine av K.lU rfl ?_
 have ln:(l.set q (max n t)).length=l.length:=List.length_set ..
 have a:=U2 q
 have b:=hb _ (af hq)
 unfold M8
 cases into with
 | none=>
   simp only[smE,smD,Me,Bool.and_true,decide_eq_true_eq]
   by_cases c1:max n t≤2147483648
   · by_cases c2:max n t<nth l q
     · simp(disch:=omega)only[go_sem,K.bu,↓reduceIte,a,c1,c2,and_self,reduceAdd,reduceSub]
     · simp(disch:=omega)only[go_sem,K.bu,↓reduceIte,c1,c2,and_false,reduceAdd,reduceSub]
   · simp(disch:=omega)only[go_sem,K.bu,↓reduceIte,c1,false_and,reduceAdd,reduceSub]
 | some s=>
   have a2:=PX q s (by have:=hi s rfl;omega)
   simp only[smE,smD,Me]
   by_cases c1:max n t≤2147483648
   · by_cases c2:max n t<nth l q
     · by_cases c3:(q:Int)∈s
       · simp only[c3,decide_true]at a2
         simp(disch:=omega)only[go_sem,K.bu,↓reduceIte,a2,c1,c2,c3,and_self,decide_true,Bool.and_true,reduceAdd,reduceSub]
       · simp only[c3,decide_false]at a2
         simp(disch:=omega)only[go_sem,K.bu,↓reduceIte,a2,c1,c2,c3,and_self,decide_false,Bool.and_false,reduceAdd,reduceSub]
     · simp(disch:=omega)only[go_sem,K.bu,↓reduceIte,c1,c2,and_false,decide_false,Bool.false_and,reduceAdd,reduceSub]
   · simp(disch:=omega)only[go_sem,K.bu,↓reduceIte,c1,false_and,decide_false,Bool.false_and,reduceAdd,reduceSub]
end Go.Ev
