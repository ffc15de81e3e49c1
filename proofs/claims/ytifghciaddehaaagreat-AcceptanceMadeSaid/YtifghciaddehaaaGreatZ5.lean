/- Parts of the proof: see the text that holds the theorem. -/
import Derived.Test.YtifghciaddehaaaGreatZ4
set_option linter.all false
open Nat (reduceAdd reduceSub)
set_option maxRecDepth 100000
namespace Go.Ev
open Go
variable [Lib] [cu] [bM] [gu] [gk]
theorem vm{α β γ:Type}{f:β→Option γ}{g:α→β}{h:α→γ}:∀ {l:List α},(∀x∈l,f (g x)=some (h x))→cD f (l.map g)=some (l.map h)
 | [],_=>rfl
 | a::l,hh=>by
   have ih:=vm (f:=f) (g:=g) (h:=h) (l:=l) fun x hx=>hh x (List.mem_cons_of_mem _ hx)
   simp only[List.map_cons,cD,hh a List.mem_cons_self,aLq,ih,aLw]
theorem Ie{α:Type}(f g:Nat→α):∀n,(List.range n).flatMap (fun i=>[f i,g i])=(List.range (2*n)).map (fun k=>if k % 2=0 then f (k / 2)else g (k / 2))
 | 0=>rfl
 | n+1=>by
   have e:2*(n+1)=2*n+1+1:=by omega
   have e1:(2*n) % 2=0:=by omega
   have e2:¬(2*n+1) % 2=0:=by omega
   have e3:(2*n) / 2=n:=by omega
   have e4:(2*n+1) / 2=n:=by omega
   rw[List.range_succ,List.flatMap_append,Ie f g n,e,List.range_succ,List.range_succ,List.map_append,List.map_append]
   simp only[List.map_cons,List.map_nil,List.flatMap_cons,List.flatMap_nil,if_pos e1,if_neg e2,e3,e4,List.append_assoc,List.append_nil,List.cons_append,List.nil_append]
def Uw(s:Nat)(ws:List World)(i:Nat):D:= .agg [.ref (s+2*i+1) 0 (nth ws i).tags.length,.ref (s+2*i+2) 0 (nth ws i).whr.length]
def FN(ws:List World)(k:Nat):Obj:=if k % 2=0 then .arr 1 false 0 (ints (nth ws (k / 2)).tags)else .arr 2 false 0 (whs (nth ws (k / 2)).whr)
def cpH(s:Nat)(ws:List World):aq:= .arr 2 false 0 ((List.range ws.length).map (Uw s ws))::(List.range (2*ws.length)).map (FN ws)
theorem LX(f:Nat→Option Nat)(ws:List World)(k:Nat):gD f (FN ws k)=some (FN ws k):=by
 unfold FN
 split<;>simp only[gD,ints,whs,JG,aLw]
theorem WR(s:Nat)(ws:List World):cD (gD (dI [] s)) (cpH 0 ws)=some (cpH s ws):=by
 have e1:∀i:Nat,dI [] s (0+2*i+1)=some (s+2*i+1):=fun i=>by simp[dI];omega
 have e2:∀i:Nat,dI [] s (0+2*i+2)=some (s+2*i+2):=fun i=>by simp[dI];omega
 have h1:cD (ren (dI [] s) depth) ((List.range ws.length).map (Uw 0 ws))=some ((List.range ws.length).map (Uw s ws)):=vm fun i _=>by
  simp only[Uw,depth,ren,cD,e1,e2,aLw,aLq]
 have h2:cD (gD (dI [] s)) ((List.range (2*ws.length)).map (FN ws))=some ((List.range (2*ws.length)).map (FN ws)):=vm fun k _=>LX _ ws k
 unfold cpH
 simp only[cD,gD,h1,h2,aLw,aLq]
def wF(n:Nat):List Nat:=(List.range (2*n)).map (fun k=>if k % 2=0 then 4+3*(k / 2)else 5+3*(k / 2))
theorem Kh(n:Nat):([3]++wF n).Nodup:=by
 have h:(wF n).Pairwise (· < ·):=by
  unfold wF
  rw[List.pairwise_map]
  refine List.Pairwise.imp (fun{a b} hab=>?_) List.pairwise_lt_range
  have:a<b:=hab
  split<;>split<;>omega
 rw[List.singleton_append,List.nodup_cons]
 refine⟨fun hm=>?_,List.Pairwise.imp (fun{a b} hab=>Nat.ne_of_lt hab) h⟩
 unfold wF at hm
 obtain⟨k,_,hk⟩:=List.mem_map.1 hm
 split at hk<;>omega
theorem Ig(n k:Nat)(h:k<2*n):([3]++wF n)[k+1]?=some (if k % 2=0 then 4+3*(k / 2)else 5+3*(k / 2)):=by
 unfold wF
 rw[List.singleton_append,List.getElem?_cons_succ,aLn,aLp h];rfl
theorem NB(H:aq)(ws:List World)(h3:H[3]?=some (.arr 2 false 0 ((List.range ws.length).map (fun i=>D.agg [.ref (4+3*i) 0 (nth ws i).tags.length,.ref (5+3*i) 0 (nth ws i).whr.length]))))
 (ha:∀i,i<ws.length→H[4+3*i]?=some (.arr 1 false 0 (ints (nth ws i).tags))) (hb:∀i,i<ws.length→H[5+3*i]?=some (.arr 2 false 0 (whs (nth ws i).whr))):
 finish 0 2 H [.agg [.ref 3 0 ws.length]]=some (.agg [.ref 0 0 ws.length],cpH 0 ws):=by
 have hold:([D.agg [.ref 3 0 ws.length]].all (old 0 depth)&&(H.take 0).all (fun o=>o.ds.all (old 0 depth)))=false:=by simp[old,depth]
 have nd:=Kh ws.length
 have hids:lN H [3]=wF ws.length:=by
  simp only[lN,List.flatMap_cons,List.flatMap_nil,List.append_nil,h3,Obj.ds,List.flatMap_map]
  simp only[ids,depth,List.flatMap_cons,List.flatMap_nil,List.append_nil,List.cons_append,List.nil_append]
  exact Ie _ _ _
 have hpick:pick H (wF ws.length)=some ((List.range (2*ws.length)).map (FN ws)):=by
  refine CJ (by unfold wF;simp) fun k i o hk ho=>?_
  unfold wF at hk
  rw[aLn]at hk ho
  have hl:k<2*ws.length:=by
   cases hr:(List.range (2*ws.length))[k]? with
   | none=>rw[hr]at hk;simp at hk
   | some v=>have:=(aLe.1 hr).1;simpa using this
  rw[aLp hl]at hk ho
  simp only[aLw,Option.some.injEq]at hk ho
  subst hk;subst ho
  unfold FN
  split
  · exact ha _ (by omega)
  · exact hb _ (by omega)
 have hch:(((List.range (2*ws.length)).map (FN ws)).flatMap fun o=>o.ds.flatMap (gT H depth))=[]:=by
  rw[List.flatMap_eq_nil_iff]
  intro o ho
  obtain⟨k,_,rfl⟩:=List.mem_map.1 ho
  unfold FN
  split<;>simp only[Obj.ds,ints,whs,Pz]
 have hfz:cD (fG H) ((List.range (2*ws.length)).map (FN ws))=some ((List.range (2*ws.length)).map (FN ws)):=vm fun k _=>by
  have key:∀ts:List T,cD (fun d=>(frz H depth d).map D.t) (ts.map .t)=some (ts.map .t):=fun ts=>vm fun x _=>by simp only[aev,aLw]
  unfold FN
  split<;>simp only[fG,ints,whs,key,aLw]
 have hk:kX H (max 2 1) (List.range 0) ([D.agg [.ref 3 0 ws.length]].flatMap (ids depth)++lN H (List.range 0))=
  some ([3]++wF ws.length,.arr 2 false 0 ((List.range ws.length).map (fun i=>D.agg [.ref (4+3*i) 0 (nth ws i).tags.length,.ref (5+3*i) 0 (nth ws i).whr.length]))::(List.range (2*ws.length)).map (FN ws)):=by
  have e1:[D.agg [.ref 3 0 ws.length]].flatMap (ids depth)++lN H (List.range 0)=[3]:=by simp[ids,depth,lN]
  have hnew:(fp [] [3]).drop 0=[3]:=by simp[fp]
  have hm:max 2 1=1+1:=rfl
  rw[e1,hm]
  simp only[List.range_zero]
  unfold kX
  simp only[List.length_nil,hnew,pick,h3,aLq,aLw,Nat.one_ne_zero,if_false]
  unfold kX
  simp only[List.nil_append,hids,vT _ _ nd,List.length_singleton,List.drop_left',hpick,aLq,if_true,hch,List.all_nil,hfz,kX,aLw,List.append_nil,List.singleton_append,List.drop_one,List.tail_cons]
 unfold finish
 rw[if_neg (by omega),aLq,hold,if_neg (by simp),hk]
 have i0:idxOf ([3]++wF ws.length) 3=some 0:=rfl
 have iA:∀i,i<ws.length→idxOf ([3]++wF ws.length) (4+3*i)=some (0+2*i+1):=fun i hi=>by
  have g:=Ig ws.length (2*i) (by omega)
  rw[if_pos (by omega),show 4+3*(2*i / 2)=4+3*i by omega]at g
  rw[show 0+2*i+1=2*i+1 by omega]
  exact qm _ _ _ nd g
 have iB:∀i,i<ws.length→idxOf ([3]++wF ws.length) (5+3*i)=some (0+2*i+2):=fun i hi=>by
  have g:=Ig ws.length (2*i+1) (by omega)
  rw[if_neg (by omega),show 5+3*((2*i+1) / 2)=5+3*i by omega]at g
  rw[show 0+2*i+2=2*i+1+1 by omega]
  exact qm _ _ _ nd g
 have hes:cD (ren (idxOf ([3]++wF ws.length)) depth) ((List.range ws.length).map (fun i=>D.agg [.ref (4+3*i) 0 (nth ws i).tags.length,.ref (5+3*i) 0 (nth ws i).whr.length]))=some ((List.range ws.length).map (Uw 0 ws)):=vm fun i hi=>by
  have hi:=aLu.1 hi
  simp only[Uw,depth,ren,cD,iA i hi,iB i hi,aLw,aLq]
 have hob:cD (gD (idxOf ([3]++wF ws.length))) ((List.range (2*ws.length)).map (FN ws))=some ((List.range (2*ws.length)).map (FN ws)):=vm fun k _=>LX _ ws k
 simp only[depth]at hes
 simp only[aLq,List.range_zero,List.nil_append,List.take_zero,j3,Nat.succ_ne_zero,if_false,List.all_nil,if_true,cD,gD,hes,hob,ren,depth,i0,aLw,xp,cpH]
theorem afH{H t:aq}{i k:Nat}{o:Obj}(h:i<H.length):(H.set k o++t)[i]?=(H.set k o)[i]?:=aLg (by rw[List.length_set];exact h)
theorem afI{H t:aq}{i k:Nat}{o o':Obj}(h:i<H.length):(H.set k o++t).set i o'=(H.set k o).set i o'++t:=List.set_append_left _ _ (by rw[List.length_set];exact h)
theorem NC(l:List World)(h1:l.length≤1000000)(h2:∀x∈l,x.sz)(a:D):∃q,exS aD K.uc ⟨[a,.bp 0 0,.bp 1 0,.bp 2 0,I 0],[.box [.t (tX l)],.box [.nil],.box [.ref 3 0 0],.arr 2 false 0 []]⟩=some q∧
 ∃H,q=(.exit 0,⟨[.und,.bp 0 0,.bp 1 0,.bp 2 0,I l.length],H⟩)∧H[1]?=some (.box [.nil])∧H[2]?=some (.box [.ref 3 0 l.length])∧
  H[3]?=some (.arr 2 false 0 ((List.range l.length).map (fun i=>D.agg [.ref (4+3*i) 0 (nth l i).tags.length,.ref (5+3*i) 0 (nth l i).whr.length])))∧
  (∀i,i<l.length→H[4+3*i]?=some (.arr 1 false 0 (ints (nth l i).tags)))∧(∀i,i<l.length→H[5+3*i]?=some (.arr 2 false 0 (whs (nth l i).whr))):=by
 refine zf (fun j st=>∃H,st=⟨[.und,.bp 0 0,.bp 1 0,.bp 2 0,I j],H⟩∧H.length=4+3*j∧H[0]?=some (.box [.t (tX l)])∧H[1]?=some (.box [.nil])∧H[2]?=some (.box [.ref 3 0 j])∧
  H[3]?=some (.arr 2 false 0 ((List.range j).map (fun i=>D.agg [.ref (4+3*i) 0 (nth l i).tags.length,.ref (5+3*i) 0 (nth l i).whr.length])))∧
  (∀i,i<j→H[4+3*i]?=some (.arr 1 false 0 (ints (nth l i).tags)))∧(∀i,i<j→H[5+3*i]?=some (.arr 2 false 0 (whs (nth l i).whr)))) l.length _ ?_ ?_ ?_
 · exact⟨_,rfl,rfl,rfl,rfl,rfl,rfl,fun i hi=>absurd hi (by omega),fun i hi=>absurd hi (by omega)⟩
 · rintro j st hj ⟨H,rfl,hlen,e0,e1,e2,e3,hA,hB⟩
   have g:(l.map World.e)[j]?=some (nth l j).e:=b8 _ hj
   have c:=mM (nth l j) (h2 _ (ai hj))
   have rs:(List.range (j+1)).map (fun i=>D.agg [.ref (4+3*i) 0 (nth l i).tags.length,.ref (5+3*i) 0 (nth l i).whr.length])=(List.range j).map (fun i=>D.agg [.ref (4+3*i) 0 (nth l i).tags.length,.ref (5+3*i) 0 (nth l i).whr.length])++[D.agg [.ref (4+3*j) 0 (nth l j).tags.length,.ref (5+3*j) 0 (nth l j).whr.length]]:=by
    rw[List.range_succ,List.map_append];rfl
   have el:((List.range j).map (fun i=>D.agg [.ref (4+3*i) 0 (nth l i).tags.length,.ref (5+3*i) 0 (nth l i).whr.length])).length=j:=by simp
   generalize (List.range j).map (fun i=>D.agg [.ref (4+3*i) 0 (nth l i).tags.length,.ref (5+3*i) 0 (nth l i).whr.length])=es at*
   have n1:4+3*j=H.length:=hlen.symm
   have n2:5+3*j=H.length+1:=by omega
   rw[n1,n2]at rs
   refine⟨⟨[.und,.bp 0 0,.bp 1 0,.bp 2 0,I (j+1)],(H.set 3 (.arr 2 false 0 (es++[D.agg [.ref H.length 0 (nth l j).tags.length,.ref (H.length+1) 0 (nth l j).whr.length]]))).set 2 (.box [.ref 3 0 (j+1)])++[.arr 1 false 0 (ints (nth l j).tags),.arr 2 false 0 (whs (nth l j).whr),.arr 2 false 0 [D.agg [.ref H.length 0 (nth l j).tags.length,.ref (H.length+1) 0 (nth l j).whr.length]]]⟩,?_,_,rfl,?_⟩
   · generalize hx:nth l j=x at*
     obtain⟨tags,whr⟩:=x
     simp only[ints,whs]at*
     clear rs hA hB
     simp(disch:=omega)only[go_sem,K.nJ,↓reduceIte,reduceAdd,reduceSub,g,c,e0,e1,e2,e3,el,lx,mc,jW,P8,pj,M6,vU,afH,afI,fH,List.length_set,Nat.add_assoc,Nat.sub_zero]
   · have old_:∀(o o':Obj) (t:aq) (i:Nat),i<H.length→i≠2→i≠3→((H.set 3 o).set 2 o'++t)[i]?=H[i]?:=fun o o' t i h1 h2 h3=>by
      rw[aLg (by simp;exact h1),fH (fun e=>h2 e.symm),fH (fun e=>h3 e.symm)]
     have new_:∀(o o':Obj) (t:aq) (k:Nat),((H.set 3 o).set 2 o'++t)[H.length+k]?=t[k]?:=fun o o' t k=>by
      rw[aLh (by simp)];simp
     refine⟨by simp;omega,?_,?_,?_,?_,?_,?_⟩
     · rw[old_ _ _ _ 0 (by omega) (by omega) (by omega)];exact e0
     · rw[old_ _ _ _ 1 (by omega) (by omega) (by omega)];exact e1
     · rw[aLg (by simp;omega),me (by simp;omega)]
     · rw[aLg (by simp;omega),fH (by omega),me (by omega),rs]
     · intro i hi
       by_cases c:i<j
       · rw[old_ _ _ _ _ (by omega) (by omega) (by omega)];exact hA i c
       · have:i=j:=by omega
         subst this
         rw[n1,show H.length=H.length+0 from rfl,new_];rfl
     · intro i hi
       by_cases c:i<j
       · rw[old_ _ _ _ _ (by omega) (by omega) (by omega)];exact hB i c
       · have:i=j:=by omega
         subst this
         rw[n2,new_];rfl
 · rintro st ⟨H,rfl,hlen,e0,e1,e2,e3,hA,hB⟩
   refine⟨(.exit 0,⟨[.und,.bp 0 0,.bp 1 0,.bp 2 0,I l.length],H⟩),?_,by simp,H,rfl,e1,e2,e3,hA,hB⟩
   simp(disch:=omega)only[go_sem,K.nJ,↓reduceIte,reduceAdd,reduceSub,e0]
theorem Ki(b:Bel)(h:b.sz):aD 2 N.gg [.t b.e] []=some (.agg [.ref 0 0 b.av.length],cpH 0 b.av):=by
 refine ao K.pN rfl ?_
 obtain⟨h1,h2⟩:=h
 obtain⟨q,hq,H,rfl,e1,e2,e3,hA,hB⟩:=NC b.av h1 h2 (.t b.e)
 have fin:=NB (H.set 1 (.box [.ref 3 0 b.av.length])) b.av (by rw[fH (by omega)];exact e3) (fun i hi=>by rw[fH (by omega)];exact hA i hi) (fun i hi=>by rw[fH (by omega)];exact hB i hi)
 have hl:=nY e1
 obtain⟨l⟩:=b
 simp only at*
 simp(disch:=omega)only[go_sem,K.gg,↓reduceIte,hq,e1,e2,me,fin,reduceAdd,reduceSub]
theorem Ih(m:aB)(hp:m.aa.length≤1000000)(hr:m.roads.length≤1000000):aD 1 N.ie [.t m.e] []=some (.agg [.ref 0 0 m.aa.length,.ref 1 0 m.roads.length],[.arr 2 false 0 ((m.aa.map Place.e).map .t),.arr 10 false 0 ((m.roads.map Road.e).map .t)]):=by
 refine ao K.qs rfl ?_
 obtain⟨aa,roads⟩:=m
 simp only at*
 simp(disch:=omega)only[go_sem,K.ie,↓reduceIte,reduceAdd,reduceSub]
theorem Ux(ts:List T)(i:Nat)(x:T):(ts.map D.t).set i (.t x)=(ts.set i x).map .t:=by simp
def Uy(l:List Int)(t:Int):Nat→List Int
 | 0=>l
 | p+1=>if t<nth (Uy l t p) p then(Uy l t p).set p never else Uy l t p
def Uz(m:aB)(w:Wh)(t:Int):Wh:=⟨t,dN m t none (Uy w.frm t w.frm.length)⟩
theorem Ii{H H':aq}:∀(k:Nat) (d:D),(∀i∈gT H k d,∃sz pin pin' ep es,H[i]?=some (.arr sz pin ep es)∧H'[i]?=some (.arr sz pin' ep es))→frz H' k d=frz H k d∧gT H' k d=gT H k d:=by
 intro k
 induction k with
 | zero=>intro d _;cases d<;>exact⟨rfl,rfl⟩
 | succ k ih=>
   intro d h
   have list:∀es:List D,(∀i∈es.flatMap (gT H k),∃sz pin pin' ep es,H[i]?=some (.arr sz pin ep es)∧H'[i]?=some (.arr sz pin' ep es))→cD (frz H' k) es=cD (frz H k) es∧es.flatMap (gT H' k)=es.flatMap (gT H k):=by
    intro es
    induction es with
    | nil=>intro _;exact⟨rfl,rfl⟩
    | cons e es ihl=>
      intro he
      obtain⟨a1,a2⟩:=ih e fun i hi=>he i (by simp[hi])
      obtain⟨b1,b2⟩:=ihl fun i hi=>he i (by rw[List.flatMap_cons];exact List.mem_append_right _ hi)
      exact⟨by simp only[cD,a1,b1],by simp only[List.flatMap_cons,a2,b2]⟩
   cases d with
   | agg cs=>
     simp only[gT]at h
     obtain⟨a1,a2⟩:=list cs h
     exact⟨by simp only[frz,a1],by simp only[gT,a2]⟩
   | ref id ep n=>
     obtain⟨sz,pin,pin',ep',es,e1,e2⟩:=h id (by simp[gT])
     have:∀i∈es.flatMap (gT H k),∃sz pin pin' ep es,H[i]?=some (.arr sz pin ep es)∧H'[i]?=some (.arr sz pin' ep es):=fun i hi=>h i (by simp only[gT,e1];exact List.mem_cons_of_mem _ hi)
     obtain⟨a1,a2⟩:=list es this
     refine⟨?_,by simp only[gT,e1,e2,a2]⟩
     simp only[frz,jc,e1,e2]
     by_cases c:ep=ep'∧n=es.length
     · simp only[if_pos c,aLq,a1]
     · simp only[if_neg c,Option.bind_none]
   | sub id ep n lo hi=>
     obtain⟨sz,pin,pin',ep',es,e1,e2⟩:=h id (by simp[gT])
     have:∀i∈es.flatMap (gT H k),∃sz pin pin' ep es,H[i]?=some (.arr sz pin ep es)∧H'[i]?=some (.arr sz pin' ep es):=fun i hi=>h i (by simp only[gT,e1];exact List.mem_cons_of_mem _ hi)
     obtain⟨a1,a2⟩:=list es this
     have:∀i∈((es.drop lo).take (hi-lo)).flatMap (gT H k),∃sz pin pin' ep es,H[i]?=some (.arr sz pin ep es)∧H'[i]?=some (.arr sz pin' ep es):=fun i hi=>by
      obtain⟨e,he,hi⟩:=List.mem_flatMap.1 hi
      exact this i (List.mem_flatMap.2 ⟨e,List.mem_of_mem_drop (List.mem_of_mem_take he),hi⟩)
     obtain⟨b1,b2⟩:=list _ this
     refine⟨?_,by simp only[gT,e1,e2,a2]⟩
     simp only[frz,jc,e1,e2]
     by_cases c:ep=ep'∧n=es.length
     · simp only[if_pos c,aLq,b1]
     · simp only[if_neg c,Option.bind_none]
   | _=>exact⟨rfl,rfl⟩
theorem EL{α β:Type}{f g:α→List β}:∀ {l:List α},(∀x∈l,f x=g x)→l.flatMap f=l.flatMap g
 | [],_=>rfl
 | a::l,h=>by rw[List.flatMap_cons,List.flatMap_cons,h a List.mem_cons_self,EL fun x hx=>h x (List.mem_cons_of_mem _ hx)]
theorem Rp.alY{H:aq}{id:Nat}{es:List D}{fa fb:Nat→Nat}{out:List World}(hr:Rp H id es fa fb out)(k:Nat):
 Go.Ev.frz H (k+4) (.ref id 0 out.length)=some (.sl (out.map World.e))∧gT H (k+4) (.ref id 0 out.length)=id::(List.range out.length).flatMap (fun j=>[fa j,fb j]):=by
 have hl:=hr.len
 have key:∀(j:Nat) (hj:j<out.length),Go.Ev.frz H (k+3) (.agg [.ref (fa j) 0 (nth out j).tags.length,.ref (fb j) 0 (nth out j).whr.length])=some (nth out j).e∧
  gT H (k+3) (.agg [.ref (fa j) 0 (nth out j).tags.length,.ref (fb j) 0 (nth out j).whr.length])=[fa j,fb j]:=by
  intro j hj
  have h1:=hr.ha j hj
  have h2:=hr.hb j hj
  simp(disch:=omega)only[go_sem,h1,h2,ints,whs,↓reduceIte]
 have hes:es=(List.range out.length).map (fun j=>D.agg [.ref (fa j) 0 (nth out j).tags.length,.ref (fb j) 0 (nth out j).whr.length]):=by
  refine List.ext_getElem? fun j=>?_
  by_cases c:j<out.length
  · rw[hr.el j c,aLn,aLp c];rfl
  · rw[aLm (by omega),aLm (by simp;omega)]
 have hout:out.map World.e=(List.range out.length).map (fun j=>(nth out j).e):=by
  refine List.ext_getElem? fun j=>?_
  by_cases c:j<out.length
  · rw[b8 _ c,aLn,aLp c];rfl
  · rw[aLm (by simp;omega),aLm (by simp;omega)]
 constructor
 · simp only[Go.Ev.frz,jc,hr.arr]
   rw[if_pos (by simp[hl]),aLq,hes,hout]
   rw[vm (h:=fun j=>(nth out j).e) fun j hj=>(key j (aLu.1 hj)).1];rfl
 · simp only[gT,hr.arr,hes,List.flatMap_map]
   congr 1
   refine EL fun j hj=>(key j (aLu.1 hj)).2
section
variable {bm : aB} (hm : bm.ok) {t : Int} (i : Nat) {H : aq} {io iB iO n a fbi tl : Nat} {es : List D} {whr : List Wh} (e1 : H[iO]? = some (.box [.ref io 0 n])) (e2 : H[io]? = some (.arr 2 false 0 es)) (e3 : es.length = n)
 (e4:es[i]?=some (.agg [.ref a 0 tl,.ref fbi 0 whr.length])) (e5:H[fbi]?=some (.arr 2 false 0 (whs whr))) (e6:H[iB]?=some (.box (ae bm))) (hi:i<n) (hn:n≤1000000) (hl:whr.length≤1000000)
include hm e1 e2 e3 e4 e5 e6 hi hn hl
end
theorem Rp.app{H:aq}{id:Nat}{es:List D}{fa fb:Nat→Nat}{out:List World}(hr:Rp H id es fa fb out)(t:aq):Rp (H++t) id es fa fb out:=
 ⟨by rw[lx (nY hr.arr)];exact hr.arr,hr.len,hr.el,fun j hj=>by rw[lx (nY (hr.ha j hj))];exact hr.ha j hj,fun j hj=>by rw[lx (nY (hr.hb j hj))];exact hr.hb j hj,hr.na,hr.nb,hr.nab,hr.nbb⟩
structure SlH(H:aq)(b:List World)(bm:aB)(iB iO io:Nat)(es:List D)(fa fb:Nat→Nat)(A:List Nat)(O:List World):Prop where
 h1:H[1]?=some (.box [.ref 3 0 b.length])
 h2:H[2]?=some (.box [.nil])
 hB:H[iB]?=some (.box (ae bm))
 hO:H[iO]?=some (.box [.ref io 0 O.length])
 rp:Rp H io es fa fb O
 ar:∀i∈A,∃sz pin ep es,H[i]?=some (.arr sz pin ep es)
 nA:∀i∈A,∀j,j<O.length→i≠fb j
 eA:gT H 7 (.ref 3 0 b.length)=A
 fr:frz H 7 (.ref 3 0 b.length)=some (.sl (b.map World.e))
theorem SlH.step{H:aq}{b:List World}{bm:aB}{iB iO io:Nat}{es:List D}{fa fb:Nat→Nat}{A:List Nat}{O:List World}(h:SlH H b bm iB iO io es fa fb A O){i:Nat}(hi:i<O.length)(x:World)(ht:(nth O i).tags=x.tags)
 (hw:x.whr.length=(nth O i).whr.length) (o:Obj):SlH (H.set (fb i) (.arr 2 false 0 (whs x.whr))++[o]) b bm iB iO io es fa fb A (O.set i x):=by
 have hb:=h.rp.hb i hi
 have nb:∀ {k:Nat} {cs:List D},H[k]?=some (.box cs)→(H.set (fb i) (.arr 2 false 0 (whs x.whr))++[o])[k]?=some (.box cs):=fun{k cs} hk=>by
  have ne:fb i≠k:=fun e=>by rw[e,hk]at hb;cases hb
  rw[lx (by rw[List.length_set];exact nY hk),fH ne];exact hk
 have na:∀k∈A,(H.set (fb i) (.arr 2 false 0 (whs x.whr))++[o])[k]?=H[k]?:=fun k hk=>by
  obtain⟨sz,pin,ep,es',e⟩:=h.ar k hk
  rw[lx (by rw[List.length_set];exact nY e),fH (fun e=>h.nA k hk i hi e.symm)]
 have fc:=Ii (H:=H) (H':=H.set (fb i) (.arr 2 false 0 (whs x.whr))++[o]) 7 (.ref 3 0 b.length) (fun k hk=>by
  rw[h.eA]at hk
  obtain⟨sz,pin,ep,es',e⟩:=h.ar k hk
  exact⟨sz,pin,pin,ep,es',e,by rw[na k hk];exact e⟩)
 refine⟨nb h.h1,nb h.h2,nb h.hB,by rw[List.length_set];exact nb h.hO,(h.rp.merge hi x ht hw).app _,fun k hk=>?_,by rw[List.length_set];exact h.nA,by rw[fc.2];exact h.eA,by rw[fc.1];exact h.fr⟩
 obtain⟨sz,pin,ep,es',e⟩:=h.ar k hk
 exact⟨sz,pin,ep,es',by rw[na k hk];exact e⟩
def SlE(b:List World)(H:aq):Prop:=H[2]?=some (.box [.ref 3 0 b.length])∧frz H 7 (.ref 3 0 b.length)=some (.sl (b.map World.e))
theorem SlH.late{H:aq}{b:List World}{bm:aB}{iB iO io:Nat}{es:List D}{fa fb:Nat→Nat}{A:List Nat}{O:List World}(h:SlH H b bm iB iO io es fa fb A O)(o:Obj):SlE b (H.set 2 (.box [.ref 3 0 b.length])++[o]):=by
 have l2:=nY h.h2
 have fc:=Ii (H:=H) (H':=H.set 2 (.box [.ref 3 0 b.length])++[o]) 7 (.ref 3 0 b.length) (fun k hk=>by
  rw[h.eA]at hk
  obtain⟨sz,pin,ep,es',e⟩:=h.ar k hk
  have ne:2≠k:=fun e2=>by rw[← e2,h.h2]at e;cases e
  exact⟨sz,pin,pin,ep,es',e,by rw[lx (by rw[List.length_set];exact nY e),fH ne];exact e⟩)
 exact⟨by rw[lx (by rw[List.length_set];exact l2),me l2],by rw[fc.1];exact h.fr⟩
end Go.Ev
namespace Go.Ev
open Go
variable [Lib] [cu] [bM] [gu] [gk]
theorem LY(H:aq)(ws:List World)(n:Nat):Ab H (.agg [.ref 0 0 n],cpH 0 ws)=some (.agg [.ref H.length 0 n],H++cpH H.length ws):=by
 have e:Ab H (.agg [.ref 0 0 n],cpH 0 ws)=(ren (dI [] H.length) depth (.agg [.ref 0 0 n])).bind fun r'=>(cD (gD (dI [] H.length)) (cpH 0 ws)).map fun os=>(r',H++os):=by
  unfold Ab
  rw[if_neg (by simp[cpH])]
 rw[e,WR]
 simp[ren,depth,cD,dI]
theorem LZ(H H1:aq)(ws:List World)(n:Nat):xG H H1 [] (.agg [.ref 0 0 n],cpH 0 ws)=some (.agg [.ref H.length 0 n],H1++cpH H.length ws):=by
 have e:xG H H1 [] (.agg [.ref 0 0 n],cpH 0 ws)=Hu H1 H.length [] (.agg [.ref 0 0 n],cpH 0 ws):=by
  unfold xG
  rw[if_neg (by simp[cpH])]
 have e2:ren (dI [] H.length) 8 (.agg [.ref 0 0 n])=some (.agg [.ref H.length 0 n]):=by simp[ren,cD,dI]
 rw[e,Fl,e2,aLq]
 unfold TE
 rw[WR]
 simp[PF,eh]
theorem aag{a b t:aq}:(a++b++t)[a.length+b.length]?=t[0]?:=by
 rw[aLh (by simp)];simp
def rpA(fa fb:Nat→Nat)(n:Nat):List Nat:=(List.range n).flatMap (fun j=>[fa j,fb j])
theorem Rp.in6{H:aq}{id:Nat}{es:List D}{fa fb:Nat→Nat}{out:List World}(hr:Rp H id es fa fb out):cD (Go.Ev.frz H 6) es=some (out.map World.e)∧Ac H 6 es=rpA fa fb out.length:=by
 obtain⟨h1,h2⟩:=hr.alY 3
 constructor
 · simp only[Go.Ev.frz,jc,hr.arr]at h1
   rw[if_pos (by simp[hr.len]),aLq]at h1
   obtain⟨x,hx,he⟩:=aLb.1 h1
   cases he
   exact hx
 · simp only[gT,hr.arr]at h2
   exact(List.cons.inj h2).2
theorem Dc(s:Nat)(ws:List World):(cpH s ws).length=2*ws.length+1:=by simp[cpH]
theorem L3{X:aq}{s:Nat}(hs:X.length=s)(ws:List World)(t:aq){k:Nat}(hk:k<2*ws.length):(X++cpH s ws++t)[s+k+1]?=some (FN ws k):=by
 subst hs
 rw[List.append_assoc,aLh (by omega),show X.length+k+1-X.length=k+1 by omega,aLg (by rw[Dc];omega)]
 unfold cpH
 rw[List.getElem?_cons_succ,aLn,aLp hk];rfl
theorem akg{X:aq}{s:Nat}(hs:X.length=s)(ws:List World)(t:aq):Rp (X++cpH s ws++t) s ((List.range ws.length).map (Uw s ws)) (fun j=>s+2*j+1) (fun j=>s+2*j+2) ws where
 arr:=by
  subst hs
  rw[List.append_assoc,aLh (aLs _),Nat.sub_self];rfl
 len:=by simp
 el:=fun j hj=>by rw[aLn,aLp hj];rfl
 ha:=fun j hj=>by
  have:=L3 hs ws t (k:=2*j) (by omega)
  rw[this]
  unfold FN
  rw[if_pos (by omega),show 2*j / 2=j by omega]
 hb:=fun j hj=>by
  have:=L3 hs ws t (k:=2*j+1) (by omega)
  rw[show s+2*j+2=s+(2*j+1)+1 by omega,this]
  unfold FN
  rw[if_neg (by omega),show(2*j+1) / 2=j by omega]
 na:=fun j _=>by omega
 nb:=fun j _=>by omega
 nab:=fun i j _ _=>by omega
 nbb:=fun i j _ _ h=>by omega
end Go.Ev
namespace Go.Ev
open Go
variable [Lib] [cu] [bM] [gu] [gk] [i7] [fK] [fI] [iv] [gj] [dq] [cT] [fT] [ff] [jA] [iY]
theorem ND(l:List Place)(hl:l.length≤1000000):aD 0 N.aM [.t (.sl (l.map Place.e))] []=some (.t (.sl (l.map Place.e)),[]):=by
 refine ao K.eJ rfl ?_
 by_cases h0:l=[]
 · subst h0
   simp only[List.map_nil]
   simp(disch:=omega)only[go_sem,K.aM,↓reduceIte,List.map_nil,reduceAdd,reduceSub]
 · have e:=fun H=>BN H (l.map Place.e) (by simpa using h0)
   simp(disch:=omega)only[go_sem,K.aM,↓reduceIte,e,reduceAdd,reduceSub]
theorem NF(l:List Road)(hl:l.length≤1000000):aD 1 N.aO [.t (.sl (l.map Road.e))] []=some (.ref 0 0 l.length,[.arr 10 false 0 ((l.map Road.e).map .t)]):=by
 refine ao K.fC rfl ?_
 by_cases h0:l=[]
 · subst h0
   simp only[List.map_nil]
   simp(disch:=omega)only[go_sem,K.aO,↓reduceIte,List.map_nil,List.length_nil,reduceAdd,reduceSub]
 · have e:=fun H=>BN H (l.map Road.e) (by simpa using h0)
   simp(disch:=omega)only[go_sem,K.aO,↓reduceIte,e,reduceAdd,reduceSub]
end Go.Ev
namespace Go.Ev
open Go
variable [Lib]
structure Edge where
 r:Nat
 a:Nat
 b:Nat
 t:Int
structure Lab where
 t:Int
 r:Int
 deriving DecidableEq
instance : Dat Edge := ⟨⟨0, 0, 0, 0⟩⟩
instance : Dat Lab := ⟨⟨0, 0⟩⟩
def oE(x y:Lab):Bool:=decide (x.t<y.t)||(decide (x.t=y.t)&&decide (x.r<y.r))
theorem rY{x y:Lab}:oE x y=true↔x.t<y.t∨x.t=y.t∧x.r<y.r:=by
 simp[oE]
theorem Ax{x y:Lab}:oE x y=false↔¬(x.t<y.t∨x.t=y.t∧x.r<y.r):=by
 rw[← rY,Bool.not_eq_true]
def q6(L:List Lab)(e:Edge):Lab:=⟨(nth L e.b).t+e.t,(nth L e.b).r+1⟩
def GH(F:Int)(u:Edge→Bool)(L:List Lab)(e:Edge):Bool:=u e&&decide ((nth L e.b).t<F)&&oE (q6 L e) (nth L e.a)
def OI(F:Int)(u:Edge→Bool)(L:List Lab)(e:Edge):List Lab:=if GH F u L e then L.set e.a (q6 L e)else L
def tC(F:Int)(u:Edge→Bool)(E:List Edge)(L:List Lab)(c:Bool):Nat→List Lab×Bool
 | 0=>(L,c)
 | j+1=>(OI F u (tC F u E L c j).1 (nth E j),(tC F u E L c j).2||GH F u (tC F u E L c j).1 (nth E j))
structure DN(F:Int)(n:Nat)(L:List Lab):Prop where
 l:L.length=n
 t0:∀p,p<n→0≤(nth L p).t
 t1:∀p,p<n→(nth L p).t≤F
 r0:∀p,p<n→0≤(nth L p).r
 r1:∀p,p<n→(nth L p).r≤(nth L p).t
def Edge.ok(n:Nat)(e:Edge):Prop:=e.a<n∧e.b<n∧1≤e.t∧e.t≤1000000
def wL(F:Int)(x:Lab):Nat:=(x.t*(F+1)+x.r).toNat
def SX(F:Int)(L:List Lab):Nat:=(L.map (wL F)).sum
theorem Ri(f:Lab→Nat):∀(L:List Lab) (i:Nat) (x:Lab),i<L.length→f x<f (nth L i)→((L.set i x).map f).sum<(L.map f).sum
 | [],i,x,h,_=>absurd h (by simp)
 | y::L,0,x,_,h=>by
   simp only[List.set_cons_zero,List.map_cons,List.sum_cons]
   have:nth (y::L) 0=y:=rfl
   rw[this]at h
   omega
 | y::L,i+1,x,h,h2=>by
   simp only[List.set_cons_succ,List.map_cons,List.sum_cons]
   have e:nth (y::L) (i+1)=nth L i:=rfl
   rw[e]at h2
   have:=Ri f L i x (by simpa using h) h2
   omega
theorem tD{L:List Lab}{i j:Nat}{a:Lab}(h:j≠i):nth (L.set j a) i=nth L i:=by
 unfold nth
 simp only[aLl,aLi h]
theorem x7{L:List Lab}{i:Nat}{a:Lab}(h:i<L.length):nth (L.set i a) i=a:=bC (aLj h)
theorem akh{F:Int}{x y:Lab}(h:oE x y=true)(h0:0≤x.t)(h1:x.t≤F)(h2:0≤x.r)(h3:x.r≤x.t)(h4:0≤y.r):wL F x<wL F y:=by
 unfold wL
 rw[rY]at h
 have p0:0≤x.t*(F+1):=Int.mul_nonneg h0 (by omega)
 have key:x.t*(F+1)+x.r<y.t*(F+1)+y.r:=by
  rcases h with h | ⟨h,h'⟩
  · have:(x.t+1)*(F+1)≤y.t*(F+1):=Int.mul_le_mul_of_nonneg_right (by omega) (by omega)
    rw[Int.add_mul]at this
    omega
  · rw[h];omega
 omega
theorem Rj{F:Int}{n:Nat}{u:Edge→Bool}{L:List Lab}(h:DN F n L){e:Edge}(he:e.ok n):DN F n (OI F u L e)∧(GH F u L e=true→SX F (OI F u L e)<SX F L):=by
 unfold OI
 cases hc:GH F u L e with
 | false=>exact⟨by simpa using h,by simp⟩
 | true=>
   simp only[if_true]
   unfold GH at hc
   simp only[aLr,decide_eq_true_eq]at hc
   obtain⟨⟨-,c2⟩,c3⟩:=hc
   obtain⟨ha,hb,ht,ht2⟩:=he
   have q:=c3
   rw[rY]at q
   have b0:=h.t0 _ hb
   have b1:=h.r0 _ hb
   have b2:=h.r1 _ hb
   have a1:=h.t1 _ ha
   have a0:=h.r0 _ ha
   have ct:(q6 L e).t=(nth L e.b).t+e.t:=rfl
   have cr:(q6 L e).r=(nth L e.b).r+1:=rfl
   refine⟨⟨by rw[List.length_set];exact h.l,?_,?_,?_,?_⟩,fun _=>Ri (wL F) L e.a _ (by rw[h.l];exact ha) (akh c3 (by omega) (by omega) (by omega) (by omega) a0)⟩
   all_goals
    intro p hp
    by_cases c:p=e.a
    · subst c
      rw[x7 (by rw[h.l];exact ha)]
      omega
    · rw[tD (fun h=>c h.symm)]
      first | exact h.t0 p hp | exact h.t1 p hp | exact h.r0 p hp | exact h.r1 p hp
theorem Bb{F:Int}{n:Nat}{u:Edge→Bool}{E:List Edge}(hE:∀e∈E,e.ok n){L:List Lab}(h:DN F n L):∀j,j≤E.length→DN F n (tC F u E L false j).1∧SX F (tC F u E L false j).1≤SX F L∧
 ((tC F u E L false j).2=true→SX F (tC F u E L false j).1<SX F L)∧((tC F u E L false j).2=false→(tC F u E L false j).1=L∧∀i,i<j→GH F u L (nth E i)=false)
 | 0,_=>⟨h,aLs _,by simp[tC],fun _=>⟨rfl,fun i hi=>absurd hi (Nat.not_lt_zero _)⟩⟩
 | j+1,hj=>by
   obtain⟨a,b,c,d⟩:=Bb hE h j (by omega)
   have eo:=hE _ (ai (show j<E.length by omega))
   obtain⟨f,g⟩:=Rj (u:=u) a eo
   simp only[tC]
   cases hc:GH F u (tC F u E L false j).1 (nth E j)with
   | true=>
     have:=g hc
     refine⟨f,by omega,fun _=>by omega,by simp⟩
   | false=>
     have e:OI F u (tC F u E L false j).1 (nth E j)=(tC F u E L false j).1:=by unfold OI;rw[hc];rfl
     rw[e,Bool.or_false]
     refine⟨a,b,c,fun h2=>?_⟩
     obtain⟨d1,d2⟩:=d h2
     refine⟨d1,fun i hi=>?_⟩
     by_cases ci:i=j
     · rw[ci,←d1];exact hc
     · exact d2 i (by omega)
structure WS(F:Int)(n:Nat)(E:List Edge)(u:Edge→Bool)(Z:Nat→Bool)(L:List Lab):Prop extends DN F n L where
 z:∀p,p<n→Z p=true→nth L p=⟨0,0⟩
 w:∀p,p<n→(nth L p).t<F→Z p=true∨∃e∈E,u e=true∧e.a=p∧(nth L e.b).t<F∧oE (nth L p) (q6 L e)=false
theorem afJ{F:Int}{n:Nat}{u:Edge→Bool}{E:List Edge}{Z:Nat→Bool}(hE:∀e∈E,e.ok n)(hz:∀e∈E,u e=true→Z e.a=false){L:List Lab}(h:WS F n E u Z L){e:Edge}(he:e∈E):WS F n E u Z (OI F u L e):=by
 have I:=(Rj (u:=u) h.toDN (hE e he)).1
 refine⟨I,?_,?_⟩
 all_goals unfold OI at I ⊢
 all_goals cases hc:GH F u L e with
  | false=>
    simp only[aLt,if_false]
    first | exact h.z | exact h.w
  | true=>
    rw[hc]at I
    simp only[if_true]at I ⊢
    unfold GH at hc
    simp only[aLr,decide_eq_true_eq]at hc
    obtain⟨⟨c1,c2⟩,c3⟩:=hc
    obtain⟨ha,hb,ht,ht2⟩:=hE e he
    have ll:=h.l
    intro p hp
    rw[rY]at c3
    have ct:(q6 L e).t=(nth L e.b).t+e.t:=rfl
    have cr:(q6 L e).r=(nth L e.b).r+1:=rfl
    first
    | intro hZ
      by_cases c:p=e.a
      · subst c;rw[hz e he c1]at hZ;cases hZ
      · rw[tD (fun h=>c h.symm)];exact h.z p hp hZ
    | intro hF
      have dec:∀q,q<n→(nth (L.set e.a (q6 L e)) q).t≤(nth L q).t∧((nth (L.set e.a (q6 L e)) q).t=(nth L q).t→(nth (L.set e.a (q6 L e)) q).r≤(nth L q).r):=by
       intro q hq
       by_cases c:q=e.a
       · subst c
         rw[x7 (by omega)]
         refine⟨by omega,fun h=>by omega⟩
       · rw[tD (fun h=>c h.symm)];exact⟨Int.le_refl _,fun _=>Int.le_refl _⟩
      have cand:∀f:Edge,f.b<n→oE (q6 L f) (q6 (L.set e.a (q6 L e)) f)=false:=by
       intro f hf
       have:=dec f.b hf
       rw[Ax]
       unfold q6 at*
       simp only at*
       omega
      have ne:e.b≠e.a∨e.b=e.a:=by omega
      by_cases c:p=e.a
      · right
        subst c
        have hF':=hF
        rw[x7 (by omega)]at hF' ⊢
        have db:=dec e.b hb
        refine⟨e,he,c1,rfl,by omega,?_⟩
        have:=cand e hb
        exact this
      · rw[tD (fun h=>c h.symm)]at hF ⊢
        rcases h.w p hp hF with h1 | ⟨f,hf,f1,f2,f3,f4⟩
        · exact .inl h1
        · right
          have fb:=(hE f hf).2.1
          have db:=dec f.b fb
          have cf:=cand f fb
          refine⟨f,hf,f1,f2,by omega,?_⟩
          rw[Ax]at f4 cf ⊢
          omega
theorem Rk{F:Int}{n:Nat}{u:Edge→Bool}{E:List Edge}{Z:Nat→Bool}(hE:∀e∈E,e.ok n)(hz:∀e∈E,u e=true→Z e.a=false){L:List Lab}(h:WS F n E u Z L)(c:Bool):∀j,j≤E.length→WS F n E u Z (tC F u E L c j).1
 | 0,_=>h
 | j+1,hj=>afJ hE hz (Rk hE hz h c j (by omega)) (ai (by omega))
theorem EM{α:Type}(f:α→α×Bool)(mes:α→Nat)(P Q:α→Prop)(h1:∀l,P l→P (f l).1∧((f l).2=true→mes (f l).1<mes l))(h2:∀l,P l→(f l).2=false→Q (f l).1):∀(k:Nat) (l:α),P l→mes l<k→Q (ju f k l)
 | 0,l,_,h=>absurd h (Nat.not_lt_zero _)
 | k+1,l,hp,hm=>by
   obtain⟨a,b⟩:=h1 l hp
   unfold ju
   cases hc:(f l).2 with
   | true=>simp only[if_true];exact EM f mes P Q h1 h2 k _ a (by have:=b hc;omega)
   | false=>simp only[aLt,if_false];exact h2 l hp hc
structure L4(F:Int)(n:Nat)(E:List Edge)(u:Edge→Bool)(Z:Nat→Bool)(L:List Lab):Prop extends WS F n E u Z L where
 fx:∀e∈E,GH F u L e=false
def L5(F:Int)(u:Edge→Bool)(E:List Edge)(L:List Lab):List Lab:=ju (fun L=>tC F u E L false E.length) (SX F L+1) L
theorem L6{F:Int}{n:Nat}{u:Edge→Bool}{E:List Edge}{Z:Nat→Bool}(hE:∀e∈E,e.ok n)(hz:∀e∈E,u e=true→Z e.a=false){L:List Lab}(h:WS F n E u Z L):L4 F n E u Z (L5 F u E L):=by
 refine EM _ (SX F) (WS F n E u Z) _ (fun l hl=>⟨Rk hE hz hl _ _ (aLs _),(Bb hE hl.toDN _ (aLs _)).2.2.1⟩) (fun l hl hc=>?_) _ _ h (Nat.lt_succ_self _)
 obtain⟨-, -, -,d⟩:=Bb (u:=u) hE hl.toDN _ (aLs _)
 obtain⟨d1,d2⟩:=d hc
 refine⟨Rk hE hz hl _ _ (aLs _),fun e he=>?_⟩
 obtain⟨i,hi,rfl⟩:=List.getElem_of_mem he
 have:=d2 i hi
 rw[bC (aLc hi)]at this
 rw[d1]
 exact this
theorem L7(F:Int)(u:Edge→Bool)(A B:List Edge)(L:List Lab)(c:Bool):∀j,j≤B.length→tC F u (A++B) L c (A.length+j)=tC F u B (tC F u A L c A.length).1 (tC F u A L c A.length).2 j
 | 0,_=>by
   have:∀k,k≤A.length→tC F u (A++B) L c k=tC F u A L c k:=by
    intro k
    induction k with
    | zero=>intro _;rfl
    | succ k ih=>
      intro hk
      have e:nth (A++B) k=nth A k:=by
       unfold nth;simp only[aLl];rw[aLg (by omega)]
      simp only[tC,ih (by omega),e]
   rw[Nat.add_zero,this _ (aLs _)]
   rfl
 | j+1,hj=>by
   have e:nth (A++B) (A.length+j)=nth B j:=by
    unfold nth;simp only[aLl];rw[aLh (by omega),Nat.add_sub_cancel_left]
   rw[← Nat.add_assoc]
   simp only[tC,L7 F u A B L c j (by omega),e]
theorem L4.eqn{F:Int}{n:Nat}{E:List Edge}{u:Edge→Bool}{Z:Nat→Bool}{L:List Lab}(h:L4 F n E u Z L)(hE:∀e∈E,e.ok n){p:Nat}(hp:p<n)(hf:(nth L p).t<F)(hz:Z p=false):∃e∈E,u e=true∧e.a=p∧(nth L e.b).t<F∧nth L p=q6 L e:=by
 rcases h.w p hp hf with h1 | ⟨e,he,e1,e2,e3,e4⟩
 · rw[hz]at h1;cases h1
 · refine⟨e,he,e1,e2,e3,?_⟩
   have fx:=h.fx e he
   unfold GH at fx
   rw[e1,decide_eq_true e3,e2]at fx
   simp only[Bool.true_and]at fx
   rw[Ax]at fx e4
   have:∀x y:Lab,x.t=y.t→x.r=y.r→x=y:=fun x y a b=>by
    cases x;cases y;simp only at a b;rw[a,b]
   exact this _ _ (by omega) (by omega)
theorem Rl{p q:Nat→Bool}(h:∀x,p x=true→q x=true){l:List Nat}{x:Nat}(hx:x∈l)(h1:q x=true)(h2:p x=false):l.countP p<l.countP q:=by
 have le:∀l:List Nat,l.countP p≤l.countP q:=fun l=>List.countP_mono_left (fun x _ hp=>h x hp)
 induction l with
 | nil=>cases hx
 | cons a l ih=>
   rw[List.countP_cons,List.countP_cons]
   have:=le l
   rcases List.mem_cons.1 hx with rfl | hx
   · rw[h1,h2];simp;omega
   · have:=ih hx
     cases hp:p a with
     | true=>rw[h a hp];simp;omega
     | false=>simp;omega
theorem L4.time{F:Int}{n:Nat}{E:List Edge}{u:Edge→Bool}{Z:Nat→Bool}{L:List Lab}(h:L4 F n E u Z L)(hE:∀e∈E,e.ok n){p:Nat}(hp:p<n)(hf:(nth L p).t<F):(nth L p).t≤(n:Int)*1000000:=by
 have key:∀(k:Nat) (p:Nat),p<n→(nth L p).t.toNat=k→(nth L p).t<F→(nth L p).t≤((List.range n).countP (fun x=>oE (nth L x) (nth L p)):Int)*1000000:=by
  intro k
  induction k using Nat.strongRecOn with
  | ind k ih=>
    intro p hp hk hf
    by_cases hz:Z p=true
    · rw[h.z p hp hz]
      have:0≤((List.range n).countP (fun x=>oE (nth L x) ⟨0,0⟩):Int)*1000000:=Int.mul_nonneg (Int.natCast_nonneg _) (by omega)
      exact this
    · obtain⟨e,he,e1,e2,e3,e4⟩:=h.eqn hE hp hf (by simpa using hz)
      obtain⟨o1,o2,o3,o4⟩:=hE e he
      have ct:(nth L p).t=(nth L e.b).t+e.t:=by rw[e4];rfl
      have cr:(nth L p).r=(nth L e.b).r+1:=by rw[e4];rfl
      have b0:=h.t0 _ o2
      have:=ih (nth L e.b).t.toNat (by omega) e.b o2 rfl e3
      have lt:(List.range n).countP (fun x=>oE (nth L x) (nth L e.b))<(List.range n).countP (fun x=>oE (nth L x) (nth L p)):=by
       refine Rl (fun x hx=>?_) (aLu.2 o2) ?_ ?_
       · rw[rY]at hx ⊢;omega
       · rw[rY];omega
       · rw[Ax];omega
      generalize (List.range n).countP (fun x=>oE (nth L x) (nth L e.b))=c1 at*
      generalize (List.range n).countP (fun x=>oE (nth L x) (nth L p))=c2 at*
      omega
 have a:=key _ p hp rfl hf
 have b:(List.range n).countP (fun x=>oE (nth L x) (nth L p))≤n:=by
  have:=List.countP_le_length (p:=fun x=>oE (nth L x) (nth L p)) (l:=List.range n)
  simpa using this
 generalize (List.range n).countP (fun x=>oE (nth L x) (nth L p))=c at*
 omega
theorem WT{F1 F2:Int}{n:Nat}{E1 E2:List Edge}{u1 u2:Edge→Bool}{Z1 Z2:Nat→Bool}{L1 L2:List Lab}(h1:L4 F1 n E1 u1 Z1 L1)(h2:L4 F2 n E2 u2 Z2 L2)(k1:∀e∈E1,e.ok n)(k2:∀e∈E2,e.ok n)(R:Nat→Prop)
 (hE:∀e∈E1,u1 e=true→∃f∈E2,u2 f=true∧f.a=e.a∧f.b=e.b∧f.t=e.t) (hz:∀p,p<n→R p→Z1 p=true→Z2 p=true) (hR:∀e∈E1,u1 e=true→R e.b) (hF:(n:Int)*1000000<F2):
 ∀p,p<n→R p→(nth L1 p).t<F1→(nth L2 p).t<F2∧oE (nth L1 p) (nth L2 p)=false:=by
 have key:∀(k:Nat) (p:Nat),p<n→R p→(nth L1 p).t.toNat=k→(nth L1 p).t<F1→(nth L2 p).t<F2∧oE (nth L1 p) (nth L2 p)=false:=by
  intro k
  induction k using Nat.strongRecOn with
  | ind k ih=>
    intro p hp rp hk hf
    have tm:=h1.time k1 hp hf
    by_cases hz1:Z1 p=true
    · rw[h1.z p hp hz1,h2.z p hp (hz p hp rp hz1)]
      have n0:0≤(n:Int)*1000000:=Int.mul_nonneg (Int.natCast_nonneg _) (by omega)
      exact⟨by show(0:Int)<F2;omega,rfl⟩
    · obtain⟨e,he,e1,e2,e3,e4⟩:=h1.eqn k1 hp hf (by simpa using hz1)
      obtain⟨o1,o2,o3,o4⟩:=k1 e he
      have ct:(nth L1 p).t=(nth L1 e.b).t+e.t:=by rw[e4];rfl
      have cr:(nth L1 p).r=(nth L1 e.b).r+1:=by rw[e4];rfl
      have b0:=h1.t0 _ o2
      obtain⟨i1,i2⟩:=ih (nth L1 e.b).t.toNat (by omega) e.b o2 (hR e he e1) rfl e3
      obtain⟨f,hf2,f1,f2,f3,f4⟩:=hE e he e1
      have fx:=h2.fx f hf2
      unfold GH at fx
      rw[f1,f3,decide_eq_true i1,f2,e2]at fx
      simp only[Bool.true_and]at fx
      have c1:(q6 L2 f).t=(nth L2 e.b).t+e.t:=by unfold q6;rw[f3,f4]
      have c2:(q6 L2 f).r=(nth L2 e.b).r+1:=by unfold q6;rw[f3]
      rw[Ax]at fx i2 ⊢
      omega
 exact fun p hp rp hf=>key _ p hp rp rfl hf
theorem afK{F1 F2:Int}{n:Nat}{E1 E2:List Edge}{u1 u2:Edge→Bool}{Z1 Z2:Nat→Bool}{L1 L2:List Lab}(h1:L4 F1 n E1 u1 Z1 L1)(h2:L4 F2 n E2 u2 Z2 L2)(k1:∀e∈E1,e.ok n)(k2:∀e∈E2,e.ok n)(R:Nat→Prop)
 (hE:∀e∈E1,u1 e=true→∃f∈E2,u2 f=true∧f.a=e.a∧f.b=e.b∧f.t=e.t) (hE2:∀e∈E2,u2 e=true→∃f∈E1,u1 f=true∧f.a=e.a∧f.b=e.b∧f.t=e.t) (hz:∀p,p<n→R p→(Z1 p=true↔Z2 p=true)) (hR:∀e∈E1,u1 e=true→R e.b) (hR2:∀e∈E2,u2 e=true→R e.b)
 (hF1:(n:Int)*1000000<F1) (hF:(n:Int)*1000000<F2):
 ∀p,p<n→R p→((nth L1 p).t<F1↔(nth L2 p).t<F2)∧((nth L1 p).t<F1→nth L1 p=nth L2 p):=by
 intro p hp rp
 have a:=WT h1 h2 k1 k2 R hE (fun p hp rp=>(hz p hp rp).1) hR hF p hp rp
 have b:=WT h2 h1 k2 k1 R hE2 (fun p hp rp=>(hz p hp rp).2) hR2 hF1 p hp rp
 refine⟨⟨fun h=>(a h).1,fun h=>(b h).1⟩,fun h=>?_⟩
 have a2:=(a h).2
 have b2:=(b (a h).1).2
 rw[Ax]at a2 b2
 have:∀x y:Lab,x.t=y.t→x.r=y.r→x=y:=fun x y a b=>by
  cases x;cases y;simp only at a b;rw[a,b]
 exact this _ _ (by omega) (by omega)
def DD(F:Int)(u:Edge→Bool)(E:List Edge)(s:List Lab×Bool):List Lab×Bool:=tC F u E s.1 s.2 E.length
theorem UA(F:Int)(u:Edge→Bool)(s:List Lab×Bool):DD F u [] s=s:=rfl
theorem L8(F:Int)(u:Edge→Bool)(A B:List Edge)(s:List Lab×Bool):DD F u (A++B) s=DD F u B (DD F u A s):=by
 unfold DD
 rw[aLv,L7 F u A B s.1 s.2 B.length (aLs _)]
theorem UB(F:Int)(u:Edge→Bool)(e:Edge)(s:List Lab×Bool):DD F u [e] s=(OI F u s.1 e,s.2||GH F u s.1 e):=rfl
theorem Rm{F:Int}{n:Nat}{u:Edge→Bool}{E:List Edge}(hE:∀e∈E,e.ok n){s:List Lab×Bool}(h:DN F n s.1):DN F n (DD F u E s).1:=by
 have key:∀j,j≤E.length→DN F n (tC F u E s.1 s.2 j).1:=by
  intro j
  induction j with
  | zero=>intro _;exact h
  | succ j ih=>intro hj;exact(Rj (ih (by omega)) (hE _ (ai (by omega)))).1
 exact key _ (aLs _)
def vn(u:Edge→Bool)(L:List Lab)(at':Nat)(e:Edge):Bool:=decide (e.a=at')&&u e&&decide (nth L e.b=⟨(nth L at').t-e.t,(nth L at').r-1⟩)
def Ij(u:Edge→Bool)(E:List Edge)(L:List Lab)(at':Nat):Option Edge:=E.find? (vn u L at')
def mu(Z:Nat→Bool)(u:Edge→Bool)(E:List Edge)(L:List Lab):Nat→Nat→List Edge
 | 0,_=>[]
 | k+1,p=>if Z p then []else match Ij u E L p with
   | some e=>e::mu Z u E L k e.b
   | none=>[]
def Ik:Nat→List Edge→Prop
 | _,[]=>True
 | p,e::l=>e.a=p∧Ik e.b l
def aah:Nat→List Edge→Nat
 | p,[]=>p
 | _,e::l=>aah e.b l
theorem pn{F:Int}{n:Nat}{E:List Edge}{u:Edge→Bool}{Z:Nat→Bool}{L:List Lab}(h:L4 F n E u Z L)(hE:∀e∈E,e.ok n){p:Nat}(hp:p<n)(hf:(nth L p).t<F)(hz:Z p=false):
 ∃e,Ij u E L p=some e∧e∈E∧u e=true∧e.a=p∧(nth L e.b).t<F∧(nth L e.b).t=(nth L p).t-e.t∧(nth L e.b).r=(nth L p).r-1:=by
 obtain⟨e,he,e1,e2,e3,e4⟩:=h.eqn hE hp hf hz
 have hs:vn u L p e=true:=by
  unfold vn
  rw[e1,e2,decide_eq_true rfl]
  have:nth L e.b=⟨(nth L p).t-e.t,(nth L p).r-1⟩:=by
   rw[e4]
   unfold q6
   simp only[Int.add_sub_cancel]
  rw[decide_eq_true this]
  rfl
 cases hc:Ij u E L p with
 | none=>
   have:=List.find?_eq_none.1 hc e he
   exact absurd hs this
 | some f=>
   have f1:=List.mem_of_find?_eq_some hc
   have f2:=List.find?_some hc
   unfold vn at f2
   simp only[aLr,decide_eq_true_eq]at f2
   obtain⟨⟨f3,f4⟩,f5⟩:=f2
   have ft:=(hE f f1).2.2.1
   refine⟨f,rfl,f1,f4,f3,?_,by rw[f5],by rw[f5]⟩
   rw[f5]
   simp only
   omega
structure WU(F:Int)(n:Nat)(E:List Edge)(u:Edge→Bool)(Z:Nat→Bool)(L:List Lab)(p:Nat)(l:List Edge):Prop where
 mem:∀e∈l,e∈E∧u e=true∧e.b<n
 chain:Ik p l
 fin:Z (aah p l)=true
 sum:(l.map Edge.t).sum=(nth L p).t
 low:∀e∈l,(nth L e.b).r<(nth L p).r
 dis:(l.map Edge.b).Nodup
theorem Rn{F:Int}{n:Nat}{E:List Edge}{u:Edge→Bool}{Z:Nat→Bool}{L:List Lab}(h:L4 F n E u Z L)(hE:∀e∈E,e.ok n):∀(k p:Nat),p<n→(nth L p).t<F→(nth L p).r.toNat≤k→WU F n E u Z L p (mu Z u E L k p)
 | 0,p,hp,hf,hk=>by
   have r0:=h.r0 p hp
   by_cases hz:Z p=true
   · refine⟨by simp[mu],trivial,hz,?_,by simp[mu],by simp[mu]⟩
     rw[h.z p hp hz];rfl
   · obtain⟨e,_,e1,_,_,_,_,e5⟩:=pn h hE hp hf (by simpa using hz)
     have:=h.r0 e.b (hE e e1).2.1
     omega
 | k+1,p,hp,hf,hk=>by
   unfold mu
   by_cases hz:Z p=true
   · rw[if_pos hz]
     refine⟨by simp,trivial,hz,?_,by simp,by simp⟩
     rw[h.z p hp hz];rfl
   · rw[if_neg hz]
     obtain⟨e,e0,e1,e2,e3,e4,e5,e6⟩:=pn h hE hp hf (by simpa using hz)
     have eb:=(hE e e1).2.1
     have br:=h.r0 e.b eb
     have i:=Rn h hE k e.b eb e4 (by omega)
     rw[e0]
     simp only
     refine⟨?_,⟨e3,i.chain⟩,i.fin,?_,?_,?_⟩
     · intro f hf'
       rcases List.mem_cons.1 hf' with rfl | hf'
       · exact⟨e1,e2,eb⟩
       · exact i.mem f hf'
     · rw[List.map_cons,List.sum_cons,i.sum];omega
     · intro f hf'
       rcases List.mem_cons.1 hf' with rfl | hf'
       · omega
       · have:=i.low f hf';omega
     · rw[List.map_cons,List.nodup_cons]
       refine⟨fun hm=>?_,i.dis⟩
       obtain⟨f,f1,f2⟩:=List.mem_map.1 hm
       have:=i.low f f1
       rw[f2]at this
       omega
end Go.Ev
namespace Go.Ev.N
def NG:Nat:=334
def OJ:Nat:=335
def OK:Nat:=336
def aai:Nat:=337
def NH:Nat:=338
def aaj:Nat:=339
def aak:Nat:=340
def acU:Nat:=341
def aal:Nat:=342
def acV:Nat:=343
def acW:Nat:=344
def ahZ:Nat:=345
def SY:Nat:=346
def aam:Nat:=347
def acX:Nat:=348
def acY:Nat:=349
def Ro:Nat:=350
def UC:Nat:=351
def WW:Nat:=352
def WX:Nat:=353
def aan:Nat:=354
def SZ:Nat:=355
def acZ:Nat:=356
def ac0:Nat:=357
def UD:Nat:=358
def WY:Nat:=359
def aao:Nat:=360
def ac1:Nat:=361
def aap:Nat:=362
def UE:Nat:=363
def aaq:Nat:=364
def ac2:Nat:=365
def ac3:Nat:=366
def ac4:Nat:=367
def ac5:Nat:=368
def NI:Nat:=369
def q7:Nat:=370
def yl:Nat:=371
def UF:Nat:=372
def ug:Nat:=373
def UG:Nat:=374
def UH:Nat:=375
def aar:Nat:=376
def aas:Nat:=377
def S0:Nat:=378
def sg:Nat:=379
def wc:Nat:=380
def Rq:Nat:=381
def UI:Nat:=382
def Rr:Nat:=383
end Go.Ev.N
namespace Go.Ev.N
def UJ:Nat:=384
def S1:Nat:=385
def Rs:Nat:=386
def S2:Nat:=387
def Rt:Nat:=388
def aat:Nat:=389
def aau:Nat:=390
def ac6:Nat:=391
def OL:Nat:=392
def aav:Nat:=393
def aaw:Nat:=394
def OM:Nat:=395
def ac7:Nat:=396
def ON:Nat:=397
def NJ:Nat:=398
def afL:Nat:=399
def ac8:Nat:=400
def ac9:Nat:=401
def Ru:Nat:=402
def ada:Nat:=403
def afM:Nat:=404
def adb:Nat:=405
def ade:Nat:=406
def afN:Nat:=407
def L9:Nat:=408
def Ma:Nat:=409
def adf:Nat:=410
def afO:Nat:=411
def WZ:Nat:=412
def GI:Nat:=413
def afP:Nat:=414
def EN:Nat:=415
end Go.Ev.N
namespace Go.Ev.N
def Il:Nat:=416
def I9:Nat:=417
def bW:Nat:=418
def Im:Nat:=419
def iZ:Nat:=420
def dH:Nat:=421
def bu:Nat:=422
def bT:Nat:=423
def bD:Nat:=424
def cg:Nat:=425
def gP:Nat:=426
def dh:Nat:=427
def cB:Nat:=428
def bE:Nat:=429
def aL:Nat:=430
def bQ:Nat:=431
def iy:Nat:=432
def lE:Nat:=433
def ig:Nat:=434
def bN:Nat:=435
def fU:Nat:=436
def bg:Nat:=437
def cX:Nat:=438
def fV:Nat:=439
def dC:Nat:=440
def dV:Nat:=441
def gQ:Nat:=442
def i4:Nat:=443
def bO:Nat:=444
def fk:Nat:=445
def gl:Nat:=446
def fW:Nat:=447
def dR:Nat:=448
def fm:Nat:=449
def eB:Nat:=450
def ja:Nat:=451
def nQ:Nat:=452
def lF:Nat:=453
def bH:Nat:=454
def bf:Nat:=455
def gZ:Nat:=456
def iS:Nat:=457
def iK:Nat:=458
def iT:Nat:=459
def cj:Nat:=460
def aE:Nat:=461
def dL:Nat:=462
def jz:Nat:=463
def cF:Nat:=464
def hU:Nat:=465
def dm:Nat:=466
def ax:Nat:=467
def aF:Nat:=468
def cC:Nat:=469
def lG:Nat:=470
def eT:Nat:=471
end Go.Ev.N
namespace Go.Ev.K
open Go.Ev
def dw:C:= (.seq (.ite [m v8,f 1 v3,g l0,u (.ln l0),u (.bin .lss l3 l0)] [] 0 .skip (.exit 0)) (.seq (.blk 1 (q [m v2,w 10 (.ca N.aC 0 [] [.l 0,.i 6])] [] (.blk 2 (.ite [u (.bin .eql v10 (.i 0)),m l0] [] 0 (.reg [m v6,m v8,u (.bs [.l 0] 1),u (.app l2 l0 true 1),x 6 l0] []) (.ite [u (.bin .eql v10 (.i 1)),m l0] [] 0 (.reg [m v7,m v8,u (.bs [.l 0] 1),u (.app l2 l0 true 1),x 7 l0] []) .skip))))) (.reg [m v8,u (.bin .add l0 (.i 1)),x 8 l0] [])))
def jG:C:= .loop true [0,1,9,10] K.dw
def bW:Fn:= { aP:=1,vars:=[0,2,3,4,5,6,7,8,9,10,33],body:=(q [x 1 (.b false)] [] (.seq (.ite [m v0,u (.ca N.jP 0 [] [.l 0]),u (.un .not l0)] [] 0 (q [u (.ca N.iZ 0 [] []),x 1 l0] [] .ret) .skip) (q [m v0,u (.ca N.lk 0 [] [.l 0]),x 2 l0] [] (q [m v2,u (.ca N.dF 0 [] [.l 0]),w 3 (.al [.nil,.nil] []),u (.st l0 l1 2 [])] [] (q [w 4 (.al [.nil] []),w 5 (.al [.nil,.nil,.nil,z0] []),m v2,h 2 v3,u (.ca N.cZ 0 [] [.l 1,.l 0]),m v2,h 2 v3,u (.ca N.dH 0 [] [.l 1,.l 0]),u (.st l7 l3 1 []),u (.st l7 l1 4 [])] [(0,5),(0,8),(1,5),(1,8),(6,2)] (q [w 6 (.nw 1),w 7 (.nw 1)] [] (.seq (q [x 8 (.i 0)] [] (.blk 0 K.jG)) (q [h 1 v4,u (.ca N.ly 0 [] [.l 0]),m v2,u (.ca N.aC 0 [] [.l 0,.i 100]),u (.bin .add l2 l0),u (.bin .sub l0 (.i 5)),x 9 l0] [] (q [u (.ca N.iZ 0 [] []),m l0,y 0 true (.ld v3 2 true),y 1 true (.ld v5 4 true),y 2 true (.ld v4 1 true),e 3 true v6,e 4 true v7,e 5 true v2,y 6 true (.fa v3 0),i 7 true l0,y 8 true (.ln l0),y 9 true (.ca N.di 0 [] [.l 3,.l 0]),e 10 true v9,e 11 true v2,y 12 true (.bs [.i 0,.i 10,.i 100] 1),y 13 true (.ca N.cR 0 [] [.l 1,.l 0]),y 14 true (.ca N.gP 0 [] [.l 13,.l 12,.l 11,.l 10,.l 9,.l 4,.l 3,.l 0]),u (.pk (.l 15) l0 (.b false)),m l0,y 0 true (.ld v3 2 true),y 1 true (.ld v5 4 true),y 2 true (.ld v4 1 true),e 3 true v6,e 4 true v6,e 5 true v9,y 6 true (.ca N.gP 0 [] [.l 5,.l 4,.l 3,.l 2,.l 1,.c (.nil),.l 0,.i 0]),u (.pk l7 l0 (.b false)),x 1 l0] [(2,12),(2,16),(3,12),(3,16),(4,12),(4,16),(14,1)] .ret))))))))),res:=[(1,none)]}
def iZ:Fn:= { aP:=0,vars:=[0,1,2,3,4,5,7,9,10,11,12,13],body:=(q [x 0 (.b false)] [] (q [u (.bd [z0,z0] [(0,1,.i 1),(1,1,.i 1)]),u (.bd [z0,z0,z0,z0,z1,z1,z0,z0,z0,z0] [(2,1,.i 12),(3,1,.i 1),(4,1,.b true),(6,2,.l 0)]),w 1 (.al [z0,z0,z0,z0,z1,z1,z0,z0,z0,z0] []),u (.st l0 l1 10 [])] [] (q [w 2 (.al [z0,z0,z0,z0,z1,z1,z0,z0,z0,z0] []),w 3 (.al [z0,z0,z0,z0,z1,z1,z0,z0,z0,z0] []),h 10 v1,h 10 v1,u (.st l3 l1 10 []),u (.st l3 l1 10 [])] [(3,5)] (q [f 1 v2,u (.st l0 (.i 1) 1 []),f 0 v3,u (.st l0 (.i 1) 1 []),f 1 v3,u (.st l0 (.i 2) 1 [])] [] (q [u (.bd [z0,z1] [(1,1,.b true)]),u (.bd [z0,z1] []),u (.bd [z0,z1] [(1,1,.b true)]),u (.bs [.l 2,.l 1,.l 0] 2),h 10 v2,h 10 v3,u (.bs [.l 1,.l 0] 10),u (.bd [.nil,.nil] [(0,1,.l 3),(1,1,.l 0)]),w 4 (.al [.nil,.nil] []),u (.st l0 l1 2 [])] [] (q [h 2 v4,u (.bs [.i 4] 1),u (.bs [.i 1] 1),u (.ca N.ei 0 [] [.l 2,.l 1,.l 0,.i 0]),m l0,u (.ex l0 0),u (.ex l1 1),w 5 (.al [.nil] []),u (.st l0 l2 1 []),m l2] [] (q [u (.bd [.nil,.nil,.nil,z0] [(3,1,.i 1000)]),w 6 (.al [.nil,.nil,.nil,z0] []),u (.st l0 l1 4 [])] [] (q [h 2 v4,h 4 v6,h 1 v5,u (.bs [.i 1] 1),u (.ca N.bu 0 [] [.l 3,.l 2,.l 1,.l 0,.c (.nil),.c (.nil),.i 5,.i 0]),m l0,u (.ex l0 0),u (.ex l1 1),u (.ex l2 2),u (.al [.nil,.nil] []),u (.st l0 l3 2 []),x 7 l3,x 8 l3] [] (q [h 2 v4,h 4 v6,h 1 v5,u (.bs [.i 1] 1),u (.bs [.i 1] 1),u (.ca N.bu 0 [] [.l 4,.l 3,.l 2,.l 1,.c (.nil),.l 0,.i 5,.i 0]),m l0,u (.ex l0 0),u (.ex l1 1),u (.ex l2 2),w 9 (.al [.nil,.nil] []),u (.st l0 l3 2 []),x 10 l3,x 11 l3] [] (q [m v8,u (.bin .eql l0 (.i 46)),m l0,e 0 true v7,y 1 true (.ln l0),y 2 true (.bin .eql l0 (.i 1)),u (.pk l3 l0 (.b false)),m l0,e 0 true v7,y 1 true (.ia l0 (.i 0) 1),i 2 true l0,y 3 true (.bin .eql l0 (.i 1)),u (.pk l4 l0 (.b false)),m l0,e 0 true v11,y 1 true (.bin .eql l0 (.i 0)),u (.pk l2 l0 (.b false)),m l0,e 0 true v10,y 1 true (.ln l0),y 2 true (.bin .eql l0 (.i 1)),u (.pk l3 l0 (.b false)),m l0,y 0 true (.fa v9 1),i 1 true l0,y 2 true (.ln l0),y 3 true (.bin .eql l0 (.i 2)),u (.pk l4 l0 (.b false)),m l0,y 0 true (.fa v9 1),i 1 true l0,y 2 true (.ia l0 (.i 1) 10),y 3 true (.fa l0 5),i 4 true l0,u (.pk l5 l0 (.b false)),m l0,y 0 true (.ld v4 2 true),y 1 true (.ld v9 2 true),y 2 true (.ld v6 4 true),y 3 true (.ca N.cg 0 [] [.l 2,.l 1,.l 0]),y 4 true (.ln l0),y 5 true (.bin .eql l0 (.i 1)),u (.pk l6 l0 (.b false)),x 0 l0] [] .ret)))))))))),res:=[(0,none)]}
def dH:Fn:= { aP:=2,vars:=[0,1,3,4,5],body:=(q [w 2 (.bx v1 2),w 3 (.al [.nil,.nil,.nil,z0] [])] [] (q [m v0,u (.bs [.i 600,.i 100,.i 60,.i 1000,.i 0] 1),u (.ca N.cR 0 [] [.l 1,.l 0]),u (.bd [.nil,.nil,.nil,z0] [(3,1,.l 0)]),w 4 (.al [.nil,.nil,.nil,z0] []),u (.st l0 l1 4 [])] [] (.seq (.ite [m v0,u (.ca N.cK 0 [] [.l 0,.i 3])] [] 0 (.reg [m v0,f 0 v2,g l0,u (.ln l0),u (.ca N.aC 0 [] [.l 3,.l 0]),u (.bs [.l 0] 1),f 0 v4,u (.st l0 l1 1 [])] []) .skip) (.seq (.ite [m v0,u (.ca N.cK 0 [] [.l 0,.i 4])] [] 0 (.reg [m v0,f 0 v2,g l0,u (.ln l0),u (.ca N.aC 0 [] [.l 3,.l 0]),u (.bs [.l 0] 1),f 1 v4,u (.st l0 l1 1 [])] []) .skip) (.seq (.ite [m v0,u (.ca N.cK 0 [] [.l 0,.i 4]),m l0,y 0 true (.fa v2 1),i 1 true l0,y 2 true (.ln l0),y 3 true (.bin .gtr l0 (.i 0)),u (.pk l4 l0 (.b false))] [] 0 (.reg [m v0,f 1 v2,g l0,u (.ln l0),u (.ca N.aC 0 [] [.l 3,.l 0]),u (.bs [.l 0] 1),f 2 v4,u (.st l0 l1 1 [])] []) .skip) (q [h 4 v4,u (.st v3 l0 4 [])] [] .ret)))))),res:=[(3,some (4,true))]}
def bu:Fn:= { aP:=8,vars:=[0,1,2,3,4,5,6,7,8,9,10,13,16,17,18,19,20,21,22,23,24,25],body:=(q [w 8 (.bx v0 2),w 9 (.bx v1 4),w 10 (.bx v2 1),w 11 (.bx v5 1),w 12 (.al [.nil,.nil] []),w 13 (.mv (.c (.nil))),x 14 (.i 0)] [] (q [h 2 v8,m v3,m v4,u (.ca N.bD 0 [] [.l 2,.l 1,.l 0]),m l0,u (.ex l0 0),u (.ex l1 1),w 15 (.al [.nil,.nil] []),u (.st l0 l2 2 []),x 16 l2] [] (.seq (.ite [m v16,u (.bin .neq l0 (.i 0))] [] 0 (q [u (.bd [.nil,.nil] []),m v16,u (.st v12 l1 2 []),w 13 (.mv (.c (.nil))),x 14 l2] [] .ret) .skip) (.seq (q [h 2 v8,h 4 v9,h 1 v10,m v6,m v7,u (.ca N.cB 0 [] [.l 4,.l 3,.l 2,.l 1,.l 0]),x 17 l0] [] (.ite [m v17,u (.bin .neq l0 (.i 0))] [] 0 (q [u (.bd [.nil,.nil] []),m v17,u (.st v12 l1 2 []),w 13 (.mv (.c (.nil))),x 14 l2] [] .ret) .skip)) (q [h 2 v15,h 1 v10,m v6,u (.ca N.fS 0 [] [.l 2,.l 1,.l 0]),m l0,u (.ex l0 0),u (.ex l1 1),w 18 (.al [.nil] []),u (.st l0 l2 1 []),x 16 l2] [] (.seq (.ite [m v16,u (.bin .neq l0 (.i 0))] [] 0 (q [u (.bd [.nil,.nil] []),m v16,u (.st v12 l1 2 []),w 13 (.mv (.c (.nil))),x 14 l2] [] .ret) .skip) (q [h 2 v15,h 4 v9,h 1 v18,m v6,m v7,u (.bin .add l1 l0),u (.ca N.bE 0 [] [.l 5,.l 4,.l 3,.l 0]),x 19 l0] [] (.seq (q [m v19,u (.ca N.aV 1 [] [.l 0]),u (.mf N.bQ [.v 11]),u (.ca N.aL 1 [0] [.l 1,.l 0]),x 20 l0] [] (.ite [m v20,u (.ln l0),u (.bin .gtr l0 (.i 0))] [] 0 (q [h 2 v8,u (.ca N.bD 0 [] [.l 0,.c (.nil),.c (.nil)]),m l0,u (.ex l0 0),u (.ex l1 1),w 21 (.al [.nil,.nil] []),u (.st l0 l2 2 []),m l2] [] (q [h 2 v21,m v20,u (.st v12 l1 2 []),x 13 l1,x 14 (.i 46)] [] .ret)) .skip)) (q [h 2 v15,m v19,u (.st v12 l1 2 []),x 13 l1,x 14 (.i 0)] [] .ret))))))))),res:=[(12,some (2,true)),(13,none),(14,none)]}
def bT:Fn:= { aP:=3,vars:=[0,1,2,3,4,6,7,8,9,10,11,13],body:=(q [w 3 (.bx v0 2),w 4 (.bx v1 4),x 5 (.b false)] [] (q [h 2 v3,h 4 v4,m v2,u (.ca N.iy 0 [] [.l 2,.l 1,.l 0]),m l0,u (.ex l0 0),u (.ex l1 1),u (.ex l2 2),x 6 l2,x 7 l2,x 8 l2] [] (.seq (.ite [m v8,u (.un .not l0)] [] 0 (q [x 5 (.b false)] [] .ret) .skip) (q [h 2 v3,m v2,u (.ca N.lE 0 [] [.l 1,.l 0]),x 9 l0] [] (q [h 2 v3,h 4 v4,m v2,m v6,u (.ca N.ig 0 [] [.l 3,.l 2,.l 1,.l 0]),m l0,u (.ex l0 0),u (.ex l1 1),x 10 l1,m l1] [] (q [h 2 v3,h 4 v4,m v2,m v7,u (.ca N.ig 0 [] [.l 3,.l 2,.l 1,.l 0]),m l0,u (.ex l0 0),u (.ex l1 1),x 11 l1,m l1] [] (q [m v10,m v9,u (.bin .add l1 l0),f 3 v4,g l0,u (.bin .leq l2 l0),m l0,e 0 true v11,e 1 true v9,y 2 true (.bin .add l1 l0),y 3 true (.fa v4 3),i 4 true l0,y 5 true (.bin .leq l2 l0),u (.pk l6 l0 (.b false)),x 5 l0] [] .ret))))))),res:=[(5,none)]}
def kP:C:= (.its [u (.bin .lss v13 v12)] [] 0 .skip (.exit 1) (.seq (.blk 2 (q [a 1 v11 v13,g l0,x 9 l0] [] (.reg [f 1 v8,g l0,m v9,a 10 l1 l0,f 5 l0,u (.st l0 (.b true) 1 [])] []))) (.reg [u (.bin .add v13 (.i 1)),x 13 l0] [])))
def pU:C:= .loop true [0,1,2,3,6,7,9,10,14,15,16] K.kP
def kQ:C:= (.its [u (.bin .lss v16 v15)] [] 0 .skip (.exit 3) (.seq (.blk 4 (q [a 1 v14 v16,g l0,x 10 l0] [] (.reg [f 1 v8,g l0,m v10,a 10 l1 l0,f 5 l0,u (.st l0 (.b false) 1 [])] []))) (.reg [u (.bin .add v16 (.i 1)),x 16 l0] [])))
def pV:C:= .loop true [0,1,2,3,4,6,7,9,10,11,12,13] K.kQ
def bD:Fn:= { aP:=3,vars:=[0,1,2,3,5,6,7,8,9,11,13,47,48,49,59,60,61],body:=(q [w 3 (.bx v0 2),w 4 (.bx v2 1),w 5 (.al [.nil,.nil] []),x 6 (.i 0)] [] (q [f 1 v3,g l0,u (.ln l0),u (.bin .sub l0 (.i 1)),x 7 l0] [] (.seq (.blk 0 (.ite [h 2 v3,u (.ca N.dW 0 [] [.l 0]),u (.un .not l0),m l0] [] 0 (q [u (.bd [.nil,.nil] []),u (.st v5 l0 2 []),x 6 (.i 6)] [] .ret) (.ite [m v1,m v7,u (.ca N.dA 0 [] [.l 1,.i 0,.l 0]),u (.un .not l0),m l0,i 0 false v4,e 1 false v7,y 2 false (.ca N.dA 0 [] [.l 1,.i 0,.l 0]),y 3 false (.un .not l0),u (.pk l4 (.b true) l0),m l0,e 0 false v1,y 1 false (.mf N.bN [.v 4]),y 2 false (.ca N.aK 0 [] [.l 1,.l 0]),u (.pk l3 (.b true) l0),m l0] [] 0 (q [u (.bd [.nil,.nil] []),u (.st v5 l0 2 []),x 6 (.i 4)] [] .ret) .skip))) (q [w 8 (.al [.nil,.nil] []),f 0 v3,g l0,u (.ca N.aM 0 [] [.l 0]),f 1 v3,g l0,u (.ca N.aO 1 [] [.l 0]),u (.bd [.nil,.nil] [(0,1,.l 3),(1,1,.l 0)]),u (.st l7 l0 2 [])] [(0,4),(0,7),(5,1)] (.seq (q [x 11 v1,w 12 (.ln l0),x 13 (.i 0)] [] (.blk 1 K.pU)) (.seq (q [w 14 (.ld v4 1 false),w 15 (.ln l0),x 16 (.i 0)] [] (.blk 3 K.pV)) (q [h 2 v8,u (.st v5 l0 2 []),x 6 (.i 0)] [] .ret))))))),res:=[(5,some (2,true)),(6,none)]}
def cg:Fn:= { aP:=3,vars:=[0,1,2,3,4,5,6],body:=(q [w 3 (.bx v0 2),w 4 (.bx v1 2),w 5 (.bx v2 4),w 6 (.mv (.c (.nil)))] [] (.seq (.ite [h 2 v3,h 4 v5,u (.ca N.fU 0 [] [.l 1,.l 0]),u (.un .not l0),m l0,y 0 false (.ld v4 2 true),y 1 false (.ld v5 4 true),y 2 false (.ca N.fU 0 [] [.l 1,.l 0]),y 3 false (.un .not l0),u (.pk l4 (.b true) l0)] [] 0 (q [w 6 (.mv (.c (.nil)))] [] .ret) .skip) (q [f 0 v3,g l0,u (.ln l0),u (.mf N.bg [.v 3,.v 5,.v 4]),u (.ca N.eU 0 [] [.l 1,.l 0]),x 6 l0] [] .ret))),res:=[(6,none)]}
def gP:Fn:= { aP:=8,vars:=[0,1,2,3,4,5,6,7,8,9,10,16,17,18,19,20,21,22,23,24,25,26,27,28,29,30],body:=(q [w 8 (.bx v0 2),w 9 (.bx v1 4),w 10 (.bx v2 1),x 11 (.b false)] [] (q [h 2 v8,m v3,m v4,u (.ca N.bD 0 [] [.l 2,.l 1,.l 0]),m l0,u (.ex l0 0),u (.ex l1 1),w 12 (.al [.nil,.nil] []),u (.st l0 l2 2 []),x 13 l2] [] (q [h 2 v8,m v3,m v4,u (.ca N.fV 0 [] [.l 2,.l 1,.l 0]),m l0,u (.ex l0 0),u (.ex l1 1),w 14 (.al [.nil,.nil] []),u (.st l0 l2 2 []),x 15 l2] [] (q [h 2 v8,h 4 v9,h 1 v10,m v6,m v7,u (.ca N.dh 0 [] [.l 4,.l 3,.l 2,.l 1,.l 0]),m l0,u (.ex l0 0),u (.ex l1 1),x 16 l1,x 17 l1] [] (q [h 2 v8,h 4 v9,h 1 v10,m v6,m v7,u (.ca N.dC 0 [] [.l 4,.l 3,.l 2,.l 1,.l 0]),m l0,u (.ex l0 0),u (.ex l1 1),x 18 l1,x 19 l1] [] (q [h 2 v8,h 4 v9,h 1 v10,m v3,m v4,m v5,m v6,m v7,u (.ca N.bu 0 [] [.l 7,.l 6,.l 5,.l 4,.l 3,.l 2,.l 1,.l 0]),m l0,u (.ex l0 0),u (.ex l1 1),u (.ex l2 2),w 20 (.al [.nil,.nil] []),u (.st l0 l3 2 []),x 21 l3,x 22 l3] [] (q [h 2 v8,h 4 v9,h 1 v10,m v3,m v4,m v5,m v6,m v7,u (.ca N.dV 0 [] [.l 7,.l 6,.l 5,.l 4,.l 3,.l 2,.l 1,.l 0]),m l0,u (.ex l0 0),u (.ex l1 1),u (.ex l2 2),w 23 (.al [.nil,.nil] []),u (.st l0 l3 2 []),x 24 l3,x 25 l3] [] (q [m v13,m v15,u (.bin .eql l1 l0),m l0,y 0 true (.ld v12 2 true),y 1 true (.ld v14 2 true),y 2 true (.ca N.dG 0 [] [.l 1,.l 0]),u (.pk l3 l0 (.b false)),m l0,e 0 true v17,e 1 true v19,y 2 true (.bin .eql l1 l0),u (.pk l3 l0 (.b false)),m l0,e 0 true v16,e 1 true v18,y 2 true (.ca N.cE 0 [] [.l 1,.l 0]),u (.pk l3 l0 (.b false)),m l0,e 0 true v22,e 1 true (.v 25),y 2 true (.bin .eql l1 l0),u (.pk l3 l0 (.b false)),m l0,y 0 true (.ld v20 2 true),y 1 true (.ld v23 2 true),y 2 true (.ca N.dG 0 [] [.l 1,.l 0]),u (.pk l3 l0 (.b false)),m l0,e 0 true v21,e 1 true (.v 24),y 2 true (.ca N.cE 0 [] [.l 1,.l 0]),u (.pk l3 l0 (.b false)),m l0,y 0 true (.ld v8 2 true),y 1 true (.ld v14 2 true),y 2 true (.ld v9 4 true),y 3 true (.ca N.cg 0 [] [.l 2,.l 1,.l 0]),y 4 true (.ld v8 2 true),y 5 true (.ld v14 2 true),y 6 true (.ld v9 4 true),y 7 true (.ca N.gQ 0 [] [.l 2,.l 1,.l 0]),y 8 true (.ca N.cE 0 [] [.l 4,.l 0]),u (.pk l9 l0 (.b false)),x 11 l0] [(38,32),(39,32),(40,32)] .ret)))))))),res:=[(11,none)]}
def dh:Fn:= { aP:=5,vars:=[0,1,2,3,4,5,6,7,10,11,12],body:=(q [w 5 (.bx v0 2),w 6 (.bx v1 4),w 7 (.bx v2 1),w 8 (.mv (.c (.nil))),x 9 (.i 0)] [] (.seq (q [h 2 v5,h 4 v6,h 1 v7,m v3,m v4,u (.ca N.cB 0 [] [.l 4,.l 3,.l 2,.l 1,.l 0]),x 10 l0] [] (.ite [m v10,u (.bin .neq l0 (.i 0))] [] 0 (q [m v10,w 8 (.mv (.c (.nil))),x 9 l1] [] .ret) .skip)) (q [h 2 v5,h 4 v6,h 1 v7,m v3,m v4,u (.bin .add l1 l0),u (.ca N.bE 0 [] [.l 5,.l 4,.l 3,.l 0]),x 8 l0,x 9 (.i 0)] [] .ret))),res:=[(8,none),(9,none)]}
def cB:Fn:= { aP:=5,vars:=[0,1,2,3,4,5,6,7,10],body:=(q [w 5 (.bx v0 2),w 6 (.bx v1 4),w 7 (.bx v2 1),x 8 (.i 0)] [] (.seq (.blk 0 (.ite [h 2 v5,h 4 v6,u (.ca N.fU 0 [] [.l 1,.l 0]),u (.un .not l0),m l0,y 0 false (.ld v5 2 true),y 1 false (.ld v7 1 true),y 2 false (.ca N.gO 0 [] [.l 1,.l 0]),y 3 false (.un .not l0),u (.pk l4 (.b true) l0),m l0] [] 0 (q [x 8 (.i 6)] [] .ret) (.ite [m v3,u (.ca N.eW 0 [] [.l 0,.i 0,.i 2147483648]),u (.un .not l0),m l0,e 0 false v4,y 1 false (.ca N.eW 0 [] [.l 0,.i 0,.i 2147483648]),y 2 false (.un .not l0),u (.pk l3 (.b true) l0),m l0] [] 0 (q [x 8 (.i 8)] [] .ret) .skip))) (q [x 8 (.i 0)] [] .ret))),res:=[(8,none)]}
def bX:C:= (.its [u (.bin .lss v11 v10)] [] 0 .skip (.exit 0) (.seq (.blk 1 (q [m v11,x 9 l0] [] (.reg [m v8,h 1 v6,m v9,m v3,u (.ca N.eQ 0 [] [.l 2,.l 1,.l 0]),u (.ca N.i4 1 [] [.l 4,.l 0]),x 8 l0] []))) (.reg [u (.bin .add v11 (.i 1)),x 11 l0] [])))
def jH:C:= .loop false [0,1,2,7,9] K.bX
def bE:Fn:= { aP:=4,vars:=[0,1,2,3,4,5,6,8,9,10,16,17],body:=(q [w 4 (.bx v0 2),w 5 (.bx v1 4),w 6 (.bx v2 1),w 7 (.mv (.c (.nil)))] [] (q [w 8 (.mv (.c (.nil)))] [] (.seq (q [f 0 v6,g l0,a 2 l0 (.i 0),f 1 l0,g l0,w 10 (.ln l0),x 11 (.i 0)] [] (.blk 0 K.jH)) (q [m v8,u (.mf N.bO [.v 4,.v 5]),u (.ca N.aL 1 [0] [.l 1,.l 0]),x 7 l0] [] .ret)))),res:=[(7,none)]}
def bI:C:= (.seq (.ite [m v4,m v0,u (.ln l0),u (.bin .lss l2 l0)] [] 0 .skip (.exit 0)) (.seq (.blk 1 (q [m v0,m v4,a 1 l1 l0,g l0,x 5 l0] [] (.ite [m v1,m v5,u (.cw l1 0 [] [.l 0]),u (.un .not l0)] [] 0 (q [m v0,m v3,m v5,a 1 l2 l1,u (.st l0 l1 1 [])] [] (.reg [m v3,u (.bin .add l0 (.i 1)),x 3 l0] [])) .skip))) (.reg [m v4,u (.bin .add l0 (.i 1)),x 4 l0] [])))
def gV:C:= .loop true [2,5] K.bI
def aL:Fn:= { aP:=2,vars:=[0,1,4,5,6,7],body:=(q [w 2 (.mv (.c (.nil)))] [] (q [m v0,m v1,u (.ca N.aI 0 [0] [.l 1,.l 0]),x 3 l0] [] (.seq (.ite [m v3,u (.bin .eql l0 (.i (-1)))] [] 0 (q [m v0,x 2 l0] [] .ret) .skip) (.seq (q [m v3,u (.bin .add l0 (.i 1)),x 4 l0] [] (.blk 0 K.gV)) (q [m v0,m v3,u (.sc l1 (some l0) none 1),u (.clr l0 (.int .i64 (0)) 1)] [] (q [m v0,m v3,u (.pop l1 l0),x 2 l0] [] .ret)))))),res:=[(2,none)]}
def bQ:Fn:= { aP:=2,vars:=[0,1,3],body:=(q [x 2 (.b false)] [] (q [g v1,m v0,u (.ca N.aQ 0 [] [.l 1,.l 0]),x 2 l0] [] .ret)),res:=[(2,none)]}
def iy:Fn:= { aP:=3,vars:=[0,1,2,3,4,6,7,8,9,11,12],body:=(q [w 3 (.bx v0 2),w 4 (.bx v1 4),w 5 (.mv (.c (.nil))),w 6 (.mv (.c (.nil))),x 7 (.b false)] [] (q [h 2 v3,h 4 v4,m v2,u (.ca N.fk 0 [] [.l 2,.l 1,.l 0]),m l0,u (.ex l0 0),u (.ex l1 1),u (.ex l2 2),x 8 l2,m l2,x 9 l2] [] (.seq (.ite [m v9,u (.un .not l0)] [] 0 (q [w 5 (.mv (.c (.nil))),w 6 (.mv (.c (.nil))),x 7 (.b false)] [] .ret) .skip) (.seq (.ite [m v8,u (.ln l0),u (.bin .eql l0 (.i 0))] [] 0 (q [w 5 (.mv (.c (.nil))),w 6 (.mv (.c (.nil))),x 7 (.b true)] [] .ret) .skip) (q [h 2 v3,h 2 v3,h 4 v4,m v2,m v8,u (.ca N.gl 0 [] [.l 3,.l 2,.l 1,.l 0]),m v2,u (.ca N.fk 0 [] [.l 6,.l 1,.l 0]),m l0,u (.ex l0 0),u (.ex l1 1),u (.ex l2 2),x 10 l2,m l2,x 9 l2] [(0,6)] (.seq (.ite [m v9,u (.un .not l0)] [] 0 (q [w 5 (.mv (.c (.nil))),w 6 (.mv (.c (.nil))),x 7 (.b false)] [] .ret) .skip) (q [m v8,m v10,x 5 l1,x 6 l1,x 7 (.b true)] [] .ret))))))),res:=[(5,none),(6,none),(7,none)]}
def jI:C:= (.seq (.ite [m v5,f 1 v2,g l0,u (.ln l0),u (.bin .lss l3 l0)] [] 0 .skip (.exit 0)) (.seq (.blk 1 (q [f 1 v2,g l0,m v5,a 10 l1 l0,h 10 l0,w 6 (.al [z0,z0,z0,z0,z1,z1,z0,z0,z0,z0] []),u (.st l0 l1 10 [])] [] (.seq (.ite [f 0 v6,g l0,m v1,u (.bin .eql l1 l0),m l0,y 0 true (.ld v2 2 true),e 1 true v5,y 2 true (.ca N.fW 0 [] [.l 1,.l 0,.b false]),y 3 true (.bin .geq l0 (.i 0)),u (.pk l4 l0 (.b false))] [] 0 (.reg [m v4,h 2 v2,m v5,u (.ca N.fW 0 [] [.l 1,.l 0,.b true]),u (.mx [.l 3,.l 0]),x 4 l0] []) .skip) (.ite [f 1 v6,g l0,m v1,u (.bin .eql l1 l0),m l0,y 0 true (.ld v2 2 true),e 1 true v5,y 2 true (.ca N.fW 0 [] [.l 1,.l 0,.b true]),y 3 true (.bin .geq l0 (.i 0)),u (.pk l4 l0 (.b false))] [] 0 (.reg [m v4,h 2 v2,m v5,u (.ca N.fW 0 [] [.l 1,.l 0,.b false]),u (.mx [.l 3,.l 0]),x 4 l0] []) .skip)))) (.reg [m v5,u (.bin .add l0 (.i 1)),x 5 l0] [])))
def Bc:C:= .loop true [0,3,6] K.jI
def lE:Fn:= { aP:=2,vars:=[0,1,2,4,5,6,7],body:=(q [w 2 (.bx v0 2),x 3 (.i 0)] [] (q [x 4 (.i 0)] [] (.seq (q [x 5 (.i 0)] [] (.blk 0 K.Bc)) (q [m v4,x 3 l0] [] .ret)))),res:=[(3,none)]}
def q8:C:= (.seq (.ite [m v11,m v3,u (.ln l0),u (.bin .lss l2 l0)] [] 0 .skip (.exit 0)) (.seq (.blk 1 (.seq (.ite [m v3,m v11,a 1 l1 l0,g l0,u (.bin .lss l0 (.i 0)),m l0,e 0 false v3,e 1 false v11,y 2 false (.ia l1 l0 1),i 3 false l0,y 4 false (.fa v4 1),i 5 false l0,y 6 false (.ln l0),y 7 false (.bin .geq l3 l0),u (.pk l8 (.b true) l0),m l0,y 0 false (.fa v5 2),i 1 false l0,e 2 false v3,e 3 false v11,y 4 false (.ia l1 l0 1),i 5 false l0,y 6 false (.ca N.c7 0 [] [.l 4,.l 0]),u (.pk l7 (.b true) l0),m l0,y 0 false (.ld v4 2 true),y 1 false (.ld v5 4 true),e 2 false v8,y 3 false (.ca N.fm 0 [] [.l 2,.l 1,.l 0]),u (.pk l4 (.b true) l0)] [] 0 (q [x 6 (.i 0),x 7 (.i 45)] [] .ret) .skip) (q [h 2 v4,m v3,m v11,a 1 l1 l0,g l0,m v8,u (.ca N.eB 0 [] [.l 5,.l 1,.l 0]),m l0,u (.ex l0 0),u (.ex l1 1),x 12 l1,x 13 l1] [] (.seq (.ite [m v13,u (.bin .lss l0 (.i 0)),m l0,e 0 false v10,e 1 false v12,y 2 false (.ca N.c7 0 [] [.l 1,.l 0]),u (.pk l3 (.b true) l0),m l0,y 0 false (.fa v5 1),i 1 false l0,e 2 false v12,y 3 false (.ca N.c7 0 [] [.l 1,.l 0]),u (.pk l4 (.b true) l0)] [] 0 (q [x 6 (.i 0),x 7 (.i 45)] [] .ret) .skip) (.reg [m v12,m v9,m v13,u (.bin .add l1 l0),m v10,m v12,u (.bs [.l 0] 1),u (.app l2 l0 true 1),x 8 l7,x 9 l5,x 10 l2] []))))) (.reg [m v11,u (.bin .add l0 (.i 1)),x 11 l0] [])))
def zo:C:= .loop true [0,1,2,6,7,12,13] K.q8
def ig:Fn:= { aP:=4,vars:=[0,1,2,3,4,5,8,9,10,11,12,13,14,15],body:=(q [w 4 (.bx v0 2),w 5 (.bx v1 4),x 6 (.i 0),x 7 (.i 0)] [] (.seq (.ite [h 2 v4,h 4 v5,u (.ca N.dR 0 [] [.l 1,.l 0]),u (.un .not l0)] [] 0 (q [x 6 (.i 0),x 7 (.i 6)] [] .ret) .skip) (.seq (.ite [m v2,u (.bin .lss l0 (.i 0)),m l0,e 0 false v2,y 1 false (.fa v4 0),i 2 false l0,y 3 false (.ln l0),y 4 false (.bin .geq l3 l0),u (.pk l5 (.b true) l0)] [] 0 (q [x 6 (.i 0),x 7 (.i 3)] [] .ret) .skip) (q [m v2,x 8 l0,x 9 (.i 0)] [] (q [m v8,u (.bsr [.l 0] 1),x 10 l0] [] (.seq (q [x 11 (.i 0)] [] (.blk 0 K.zo)) (.seq (.ite [h 2 v4,h 4 v5,m v8,u (.ca N.fm 0 [] [.l 2,.l 1,.l 0]),u (.un .not l0)] [] 0 (q [x 6 (.i 0),x 7 (.i 45)] [] .ret) .skip) (q [m v9,x 6 l0,x 7 (.i 0)] [] .ret)))))))),res:=[(6,none),(7,none)]}
def bN:Fn:= { aP:=2,vars:=[0,1,3],body:=(q [x 2 (.b false)] [] (q [g v1,m v0,u (.ca N.aQ 0 [] [.l 1,.l 0]),x 2 l0] [] .ret)),res:=[(2,none)]}
def fU:Fn:= { aP:=2,vars:=[0,1,2,3,4,5],body:=(q [w 2 (.bx v0 2),w 3 (.bx v1 4),x 4 (.b false)] [] (q [f 0 v2,g l0,u (.ln l0),u (.bin .sub l0 (.i 1)),x 5 l0] [] (q [h 2 v2,u (.ca N.dW 0 [] [.l 0]),m l0,y 0 true (.fa v3 0),i 1 true l0,e 2 true v5,y 3 true (.ca N.dA 0 [] [.l 1,.i 0,.l 0]),u (.pk l4 l0 (.b false)),m l0,y 0 true (.fa v3 1),i 1 true l0,e 2 true v5,y 3 true (.ca N.dA 0 [] [.l 1,.i 0,.l 0]),u (.pk l4 l0 (.b false)),m l0,y 0 true (.fa v3 2),i 1 true l0,y 2 true (.fa v2 1),i 3 true l0,y 4 true (.ln l0),y 5 true (.bin .sub l0 (.i 1)),y 6 true (.ca N.dA 0 [] [.l 4,.i 0,.l 0]),u (.pk l7 l0 (.b false)),m l0,y 0 true (.fa v3 3),i 1 true l0,y 2 true (.ca N.eW 0 [] [.l 0,.i 0,.i 2147483648]),u (.pk l3 l0 (.b false)),x 4 l0] [] .ret))),res:=[(4,none)]}
def bg:Fn:= { aP:=4,vars:=[0,1,2,3,5],body:=(q [x 4 (.b false)] [] (q [h 2 v1,h 4 v2,m v0,u (.ca N.cX 0 [] [.l 2,.l 1,.l 0]),m l0,y 0 true (.ld v3 2 true),y 1 true (.ld v2 4 true),e 2 true v0,y 3 true (.ca N.cX 0 [] [.l 2,.l 1,.l 0]),y 4 true (.un .not l0),u (.pk l5 l0 (.b false)),x 4 l0] [] .ret)),res:=[(4,none)]}
end Go.Ev.K
namespace Go.Ev
class gC [Lib]:Prop where
 j7:Lib.fs N.bW=some K.bW
 zp:Lib.fs N.iZ=some K.iZ
 mW:Lib.fs N.dH=some K.dH
 lX:Lib.fs N.bu=some K.bu
 nS:Lib.fs N.bT=some K.bT
 mX:Lib.fs N.bD=some K.bD
 kj:Lib.fs N.cg=some K.cg
 tE:Lib.fs N.gP=some K.gP
 mY:Lib.fs N.dh=some K.dh
 kR:Lib.fs N.cB=some K.cB
 mZ:Lib.fs N.bE=some K.bE
 cP:Lib.fs N.aL=some K.aL
 kx:Lib.fs N.bQ=some K.bQ
 tF:Lib.fs N.iy=some K.iy
 x8:Lib.fs N.lE=some K.lE
 vo:Lib.fs N.ig=some K.ig
 kS:Lib.fs N.bN=some K.bN
 qw:Lib.fs N.fU=some K.fU
 jb:Lib.fs N.bg=some K.bg
namespace K
variable [Lib] [gC]
theorem j7:Lib.fs N.bW=some K.bW:=gC.j7
theorem zp:Lib.fs N.iZ=some K.iZ:=gC.zp
theorem mW:Lib.fs N.dH=some K.dH:=gC.mW
theorem lX:Lib.fs N.bu=some K.bu:=gC.lX
theorem nS:Lib.fs N.bT=some K.bT:=gC.nS
theorem mX:Lib.fs N.bD=some K.bD:=gC.mX
theorem kj:Lib.fs N.cg=some K.cg:=gC.kj
theorem tE:Lib.fs N.gP=some K.gP:=gC.tE
theorem mY:Lib.fs N.dh=some K.dh:=gC.mY
theorem kR:Lib.fs N.cB=some K.cB:=gC.kR
theorem mZ:Lib.fs N.bE=some K.bE:=gC.mZ
theorem cP:Lib.fs N.aL=some K.aL:=gC.cP
theorem kx:Lib.fs N.bQ=some K.bQ:=gC.kx
theorem tF:Lib.fs N.iy=some K.iy:=gC.tF
theorem x8:Lib.fs N.lE=some K.lE:=gC.x8
theorem vo:Lib.fs N.ig=some K.ig:=gC.vo
theorem kS:Lib.fs N.bN=some K.bN:=gC.kS
theorem qw:Lib.fs N.fU=some K.fU:=gC.qw
theorem jb:Lib.fs N.bg=some K.bg:=gC.jb
end K
end Go.Ev
namespace Go.Ev.K
open Go.Ev
def cX:Fn:= { aP:=3,vars:=[0,1,2,3,4,6,9,10],body:=(q [w 3 (.bx v0 2),w 4 (.bx v1 4),x 5 (.b false)] [] (q [h 2 v3,h 4 v4,m v2,u (.ca N.ja 0 [] [.l 2,.l 1,.l 0]),m l0,u (.ex l0 0),u (.ex l1 1),u (.ex l2 2),u (.ex l3 3),w 6 (.al [z0,z0] []),m l4,m l4,u (.st l2 l4 2 []),x 7 l4] [] (q [m v7,m l0,y 0 true (.ld v3 2 true),e 1 true v2,y 2 true (.ca N.nQ 0 [] [.l 1,.l 0]),y 3 true (.iaa v6 (.i 0) 2 1),i 4 true l0,y 5 true (.iaa v6 (.i 1) 2 1),i 6 true l0,y 7 true (.mx [.l 2,.l 0]),y 8 true (.bin .add l5 l0),y 9 true (.fa v4 3),i 10 true l0,y 11 true (.bin .leq l2 l0),u (.pk (.l 12) l0 (.b false)),x 5 l0] [(6,0),(8,0),(12,0)] .ret))),res:=[(5,none)]}
def pW:C:= (.seq (.ite [m v7,m v1,u (.ln l0),u (.bin .lss l2 l0)] [] 0 .skip (.exit 0)) (.seq (.blk 1 (.reg [m v6,m l0,e 0 false v2,e 1 false v1,e 2 false v7,y 3 false (.ia l1 l0 1),i 4 false l0,y 5 false (.ca N.c7 0 [] [.l 4,.l 0]),u (.pk l6 (.b true) l0),x 6 l0] [])) (.reg [m v7,u (.bin .add l0 (.i 1)),x 7 l0] [])))
def xg:C:= .loop true [0,5,8] K.pW
def pX:C:= (.seq (.ite [m v8,f 1 v3,g l0,u (.ln l0),u (.bin .lss l3 l0)] [] 0 .skip (.exit 2)) (.seq (.blk 3 (.reg [f 1 v3,g l0,m v8,m v1,m v8,u (.ca N.c7 0 [] [.l 1,.l 0]),m l0,y 0 false (.fa v3 1),i 1 false l0,e 2 false v8,y 3 false (.ia l1 l0 10),y 4 false (.fa l0 5),i 5 false l0,e 6 false l0,e 0 true v2,e 1 true v8,y 2 true (.ca N.c7 0 [] [.l 1,.l 0]),y 3 true (.un .not l0),y 11 false (.pk l4 l0 (.b false)),u (.pk (.l 12) (.b true) l0),a 10 (.l 18) (.l 17),f 5 l0,u (.st l0 l2 1 [])] [(1,6),(1,17)])) (.reg [m v8,u (.bin .add l0 (.i 1)),x 8 l0] [])))
def xh:C:= .loop true [0,5,6,7] K.pX
def fV:Fn:= { aP:=3,vars:=[0,1,2,3,6,7,8,9,10],body:=(q [w 3 (.bx v0 2),w 4 (.al [.nil,.nil] []),x 5 (.i 0)] [] (.seq (.ite [h 2 v3,u (.ca N.cW 0 [] [.l 0]),u (.bin .neq l0 (.i 0))] [] 0 (q [u (.bd [.nil,.nil] []),u (.st v4 l0 2 []),x 5 (.i 6)] [] .ret) .skip) (q [m v1,f 1 v3,g l0,u (.ln l0),u (.ca N.iq 0 [] [.l 3,.l 0]),u (.un .not l0),m l0,e 0 false v2,y 1 false (.fa v3 1),i 2 false l0,y 3 false (.ln l0),y 4 false (.ca N.iq 0 [] [.l 3,.l 0]),y 5 false (.un .not l0),u (.pk l6 (.b true) l0),x 6 l0] [] (.seq (q [x 7 (.i 0)] [] (.blk 0 K.xg)) (.seq (.ite [m v6] [] 0 (q [u (.bd [.nil,.nil] []),u (.st v4 l0 2 []),x 5 (.i 4)] [] .ret) .skip) (q [h 2 v3,u (.ca N.ie 1 [] [.l 0]),u (.st v3 l0 2 [])] [] (.seq (q [x 8 (.i 0)] [] (.blk 2 K.xh)) (q [h 2 v3,u (.st v4 l0 2 []),x 5 (.i 0)] [] .ret)))))))),res:=[(4,some (2,true)),(5,none)]}
def m5:C:= (.seq (.ite [m v13,m v12,u (.ln l0),u (.bin .lss l2 l0)] [] 0 .skip (.exit 2)) (.seq (.blk 3 (.reg [m v10,m v12,m v13,a 1 l1 l0,g l0,u (.ca N.lF 0 [] [.l 4,.l 0]),x 10 l0] [])) (.reg [m v13,u (.bin .add l0 (.i 1)),x 13 l0] [])))
def xi:C:= .loop true [0,1,2,8,9,14,15] K.m5
def pY:C:= (.seq (.ite [m v11,f 0 v7,g l0,a 2 l0 (.i 0),f 1 l0,g l0,u (.ln l0),u (.bin .lss l6 l0)] [] 0 .skip (.exit 0)) (.seq (.blk 1 (q [h 1 v7,m v11,m v3,m v4,u (.bin .add l1 l0),u (.ca N.eM 0 [] [.l 4,.l 3,.l 0]),x 12 l0] [] (q [x 13 (.i 0)] [] (.blk 2 K.xi)))) (.reg [m v11,u (.bin .add l0 (.i 1)),x 11 l0] [])))
def xj:C:= .loop true [0,1,2,8,9,12,13,14,15] K.pY
def m6:C:= (.seq (.ite [m v15,m v10,u (.ln l0),u (.bin .lss l2 l0)] [] 0 .skip (.exit 4)) (.seq (.blk 5 (.ite [h 2 v5,h 4 v6,m v10,m v15,a 1 l1 l0,g l0,u (.ca N.bT 0 [] [.l 5,.l 4,.l 0]),u (.un .not l0)] [] 0 (.reg [m v14,m v10,m v15,a 1 l1 l0,g l0,u (.bs [.l 0] 1),u (.app l5 l0 true 1),x 14 l0] []) .skip)) (.reg [m v15,u (.bin .add l0 (.i 1)),x 15 l0] [])))
def xk:C:= .loop true [0,1,2,3,4,7,8,9,11,12,13] K.m6
def dC:Fn:= { aP:=5,vars:=[0,1,2,3,4,5,6,7,10,11,12,13,14,15,16,17],body:=(q [w 5 (.bx v0 2),w 6 (.bx v1 4),w 7 (.bx v2 1),w 8 (.mv (.c (.nil))),x 9 (.i 0)] [] (.seq (.ite [h 2 v5,h 4 v6,u (.ca N.dR 0 [] [.l 1,.l 0]),u (.un .not l0),m l0,y 0 false (.ld v5 2 true),y 1 false (.ld v7 1 true),y 2 false (.ca N.dy 0 [] [.l 1,.l 0]),y 3 false (.un .not l0),u (.pk l4 (.b true) l0)] [] 0 (q [w 8 (.mv (.c (.nil))),x 9 (.i 6)] [] .ret) .skip) (.seq (.ite [m v3,u (.bin .lss l0 (.i 0)),m l0,e 0 false v3,y 1 false (.bin .gtr l0 (.i 2147483648)),u (.pk l2 (.b true) l0),m l0,e 0 false v4,y 1 false (.bin .lss l0 (.i 0)),u (.pk l2 (.b true) l0),m l0,e 0 false v4,y 1 false (.bin .gtr l0 (.i 2147483648)),u (.pk l2 (.b true) l0)] [] 0 (q [w 8 (.mv (.c (.nil))),x 9 (.i 8)] [] .ret) .skip) (q [w 10 (.mv (.c (.nil)))] [] (.seq (q [x 11 (.i 0)] [] (.blk 0 K.xj)) (q [w 14 (.nw 1)] [] (.seq (q [x 15 (.i 0)] [] (.blk 4 K.xk)) (q [m v14,x 8 l0,x 9 (.i 0)] [] .ret)))))))),res:=[(8,none),(9,none)]}
def oF:C:= (.seq (.ite [m v18,m v16,u (.ln l0),u (.bin .lss l2 l0)] [] 0 .skip (.exit 0)) (.seq (.blk 1 (.ite [m v5,m v16,m v18,a 1 l1 l0,g l0,u (.ca N.c7 0 [] [.l 4,.l 0]),u (.un .not l0)] [] 0 (.reg [m v17,m v16,m v18,a 1 l1 l0,g l0,u (.bs [.l 0] 1),u (.app l5 l0 true 1),x 17 l0] []) .skip)) (.reg [m v18,u (.bin .add l0 (.i 1)),x 18 l0] [])))
def pZ:C:= .loop true [0,1,2,3,4,6,7,9,10,12,13,15] K.oF
def dV:Fn:= { aP:=8,vars:=[0,1,2,3,4,5,6,7,8,9,10,16,17,18,19,20,21,23,24],body:=(q [w 8 (.bx v0 2),w 9 (.bx v1 4),w 10 (.bx v2 1),w 11 (.al [.nil,.nil] []),w 12 (.mv (.c (.nil))),x 13 (.i 0)] [] (q [h 2 v8,m v3,m v4,u (.ca N.fV 0 [] [.l 2,.l 1,.l 0]),m l0,u (.ex l0 0),u (.ex l1 1),w 14 (.al [.nil,.nil] []),u (.st l0 l2 2 []),x 15 l2] [] (.seq (.ite [m v15,u (.bin .neq l0 (.i 0))] [] 0 (q [u (.bd [.nil,.nil] []),m v15,u (.st v11 l1 2 []),w 12 (.mv (.c (.nil))),x 13 l2] [] .ret) .skip) (.seq (q [h 2 v8,h 4 v9,h 1 v10,m v6,m v7,u (.ca N.dC 0 [] [.l 4,.l 3,.l 2,.l 1,.l 0]),m l0,u (.ex l0 0),u (.ex l1 1),x 15 l0] [] (.ite [m v15,u (.bin .neq l0 (.i 0))] [] 0 (q [u (.bd [.nil,.nil] []),m v15,u (.st v11 l1 2 []),w 12 (.mv (.c (.nil))),x 13 l2] [] .ret) .skip)) (q [h 2 v14,h 1 v10,m v6,u (.ca N.fe 0 [] [.l 2,.l 1,.l 0]),m l0,u (.ex l0 0),u (.ex l1 1),u (.st v10 l1 1 []),x 15 l1] [] (.seq (.ite [m v15,u (.bin .neq l0 (.i 0))] [] 0 (q [u (.bd [.nil,.nil] []),m v15,u (.st v11 l1 2 []),w 12 (.mv (.c (.nil))),x 13 l2] [] .ret) .skip) (q [h 2 v14,h 4 v9,h 1 v10,m v6,m v7,u (.ca N.dC 0 [] [.l 4,.l 3,.l 2,.l 1,.l 0]),m l0,u (.ex l0 0),u (.ex l1 1),x 16 l1,m l1] [] (q [w 17 (.nw 1)] [] (.seq (q [x 18 (.i 0)] [] (.blk 0 K.pZ)) (.seq (.ite [m v17,u (.ln l0),u (.bin .gtr l0 (.i 0))] [] 0 (q [h 2 v8,u (.ca N.ie 0 [] [.l 0]),m v17,u (.st v11 l1 2 []),x 12 l1,x 13 (.i 46)] [] .ret) .skip) (q [h 2 v14,m v16,u (.st v11 l1 2 []),x 12 l1,x 13 (.i 0)] [] .ret))))))))))),res:=[(11,some (2,true)),(12,none),(13,none)]}
def ky:C:= (.seq (.ite [m v8,f 0 v3,g l0,u (.ln l0),u (.bin .lss l3 l0)] [] 0 .skip (.exit 0)) (.seq (.blk 1 (.ite [h 2 v3,h 4 v5,m v8,u (.ca N.bT 0 [] [.l 2,.l 1,.l 0]),m l0,y 0 true (.ld v4 2 true),y 1 true (.ld v5 4 true),e 2 true v8,y 3 true (.ca N.bT 0 [] [.l 2,.l 1,.l 0]),y 4 true (.un .not l0),u (.pk l5 l0 (.b false))] [] 0 (.reg [m v7,m v8,u (.bs [.l 0] 1),u (.app l2 l0 true 1),x 7 l0] []) .skip)) (.reg [m v8,u (.bin .add l0 (.i 1)),x 8 l0] [])))
def q9:C:= .loop true [0,1,2,6] K.ky
def gQ:Fn:= { aP:=3,vars:=[0,1,2,3,4,5,6,7,8],body:=(q [w 3 (.bx v0 2),w 4 (.bx v1 2),w 5 (.bx v2 4),w 6 (.mv (.c (.nil)))] [] (.seq (.ite [h 2 v3,h 4 v5,u (.ca N.dR 0 [] [.l 1,.l 0]),u (.un .not l0),m l0,y 0 false (.ld v4 2 true),y 1 false (.ld v5 4 true),y 2 false (.ca N.dR 0 [] [.l 1,.l 0]),y 3 false (.un .not l0),u (.pk l4 (.b true) l0)] [] 0 (q [w 6 (.mv (.c (.nil)))] [] .ret) .skip) (q [w 7 (.nw 1)] [] (.seq (q [x 8 (.i 0)] [] (.blk 0 K.q9)) (q [m v7,x 6 l0] [] .ret))))),res:=[(6,none)]}
def i4:Fn:= { aP:=2,vars:=[0,1,4,5],body:=(q [w 2 (.mv (.c (.nil)))] [] (q [m v0,m v1,u (.bs [.l 1,.l 0] 1),u (.ca N.bH 1 [] [.l 0]),x 3 l0] [] (q [m v3,u (.ca N.bP 0 [0] [.l 0])] [] (q [m v3,u (.ca N.bf 1 [0] [.l 0]),x 2 l0] [] .ret)))),res:=[(2,none)]}
def bO:Fn:= { aP:=3,vars:=[0,1,2,4],body:=(q [x 3 (.b false)] [] (q [h 2 v1,h 4 v2,m v0,u (.ca N.cX 0 [] [.l 2,.l 1,.l 0]),x 3 l0] [] .ret)),res:=[(3,none)]}
def gn:C:= (.seq (.ite [m v11,f 1 v3,g l0,u (.ln l0),u (.bin .lss l3 l0)] [] 0 .skip (.exit 2)) (.seq (.blk 3 (q [h 2 v3,m v11,m v10,u (.ca N.eB 0 [] [.l 2,.l 1,.l 0]),m l0,u (.ex l0 0),u (.ex l1 1),x 12 l1,x 13 l1] [] (.seq (.ite [m v13,u (.bin .lss l0 (.i 0)),m l0,y 0 false (.fa v4 2),i 1 false l0,e 2 false v11,y 3 false (.ca N.c7 0 [] [.l 1,.l 0]),u (.pk l4 (.b true) l0),m l0,y 0 false (.fa v4 1),i 1 false l0,e 2 false v12,y 3 false (.ca N.c7 0 [] [.l 1,.l 0]),u (.pk l4 (.b true) l0),m l0,e 0 false v8,e 1 false v12,y 2 false (.ia l1 l0 2),y 3 false (.fa l0 0),i 4 false l0,y 5 false (.bin .geq l0 (.i 1099511627776)),u (.pk l6 (.b true) l0)] [] 0 (.exit 3) .skip) (.ite [m v8,m v12,a 2 l1 l0,f 0 l0,g l0,m v13,u (.bin .add l1 l0),m v8,m v10,a 2 l1 l0,f 0 l0,g l0,u (.bin .eql l5 l0),m l0,e 0 true v8,e 1 true v12,y 2 true (.ia l1 l0 2),y 3 true (.fa l0 1),i 4 true l0,y 5 true (.bin .add l0 (.i 1)),e 6 true v8,e 7 true v10,y 8 true (.ia l1 l0 2),y 9 true (.fa l0 1),i 10 true l0,y 11 true (.bin .eql l5 l0),u (.pk (.l 12) l0 (.b false))] [] 0 (q [m v9,m v11,u (.bs [.l 0] 1),u (.app l2 l0 true 1),m v12,x 9 l1,x 10 l1] [] (.exit 2)) .skip)))) (.reg [m v11,u (.bin .add l0 (.i 1)),x 11 l0] [])))
def zq:C:= .loop true [0,1,5,6,7,12,13] K.gn
def jZ:C:= (.seq (.ite [h 2 v3,h 4 v4,m v10,u (.ca N.fm 0 [] [.l 2,.l 1,.l 0]),u (.un .not l0)] [] 0 .skip (.exit 0)) (.blk 1 (q [x 11 (.i 0)] [] (.blk 2 K.zq))))
def zr:C:= .loop true [0,1,5,6,7,11,12,13] K.jZ
def fk:Fn:= { aP:=3,vars:=[0,1,2,3,4,6,7,8,9,10,11,12,13,14],body:=(q [w 3 (.bx v0 2),w 4 (.bx v1 4),w 5 (.mv (.c (.nil))),x 6 (.i 0),x 7 (.b false)] [] (.seq (.ite [h 2 v3,h 4 v4,u (.ca N.dR 0 [] [.l 1,.l 0]),u (.un .not l0),m l0,e 0 false v2,y 1 false (.bin .lss l0 (.i 0)),u (.pk l2 (.b true) l0),m l0,e 0 false v2,y 1 false (.fa v3 0),i 2 false l0,y 3 false (.ln l0),y 4 false (.bin .geq l3 l0),u (.pk l5 (.b true) l0)] [] 0 (q [w 5 (.mv (.c (.nil))),x 6 (.i 0),x 7 (.b false)] [] .ret) .skip) (.seq (.ite [h 2 v3,h 4 v4,m v2,u (.ca N.fm 0 [] [.l 2,.l 1,.l 0])] [] 0 (q [w 5 (.mv (.c (.nil))),x 6 (.i 0),x 7 (.b true)] [] .ret) .skip) (q [h 2 v3,h 4 v4,u (.ca N.gZ 0 [] [.l 1,.l 0]),x 8 l0] [] (.seq (.ite [m v8,m v2,a 2 l1 l0,f 0 l0,g l0,u (.bin .geq l0 (.i 1099511627776))] [] 0 (q [w 5 (.mv (.c (.nil))),x 6 (.i 0),x 7 (.b false)] [] .ret) .skip) (q [w 9 (.nw 1)] [] (.seq (q [m v2,x 10 l0] [] (.blk 0 K.zr)) (q [m v9,m v8,m v2,a 2 l1 l0,f 0 l0,g l0,x 5 l5,x 6 l1,x 7 (.b true)] [] .ret)))))))),res:=[(5,none),(6,none),(7,none)]}
def nM:C:= (.seq (.ite [m v8,m v3,u (.ln l0),u (.bin .lss l2 l0)] [] 0 .skip (.exit 0)) (.seq (.blk 1 (q [h 2 v4,m v3,m v8,a 1 l1 l0,g l0,m v7,u (.ca N.eB 0 [] [.l 5,.l 1,.l 0]),m l0,u (.ex l0 0),u (.ex l1 1),x 9 l1,m l1] [] (.reg [f 2 v5,g l0,m v3,m v8,a 1 l1 l0,g l0,u (.ca N.iS 0 [] [.l 4,.l 0]),f 1 v5,g l0,m v9,u (.ca N.iS 0 [] [.l 1,.l 0]),m v9,f 2 v5,u (.st l0 l6 1 []),f 1 v5,u (.st l0 l4 1 []),x 7 l4] [(8,0)]))) (.reg [m v8,u (.bin .add l0 (.i 1)),x 8 l0] [])))
def ud:C:= .loop true [0,1,2,9] K.nM
def gl:Fn:= { aP:=4,vars:=[0,1,2,3,4,5,8,9,10,11],body:=(q [w 4 (.bx v0 2),w 5 (.bx v1 4),w 6 (.al [.nil,.nil,.nil,z0] [])] [] (q [m v2,x 7 l0] [] (.seq (q [x 8 (.i 0)] [] (.blk 0 K.ud)) (q [h 4 v5,u (.st v6 l0 4 [])] [] .ret)))),res:=[(6,some (4,true))]}
def fW:Fn:= { aP:=3,vars:=[0,1,2,3,6],body:=(q [w 3 (.bx v0 2),x 4 (.i 0)] [] (q [h 2 v3,m v1,m v2,u (.ca N.cJ 0 [] [.l 2,.l 1,.l 0,.i 2,.i 3,.i 4]),x 4 l0] [] .ret)),res:=[(4,none)]}
def dR:Fn:= { aP:=2,vars:=[0,1,2,3,4],body:=(q [w 2 (.bx v0 2),w 3 (.bx v1 4),x 4 (.b false)] [] (q [h 2 v2,u (.ca N.cW 0 [] [.l 0]),u (.bin .eql l0 (.i 0)),m l0,y 0 true (.fa v3 0),i 1 true l0,y 2 true (.fa v2 0),i 3 true l0,y 4 true (.ln l0),y 5 true (.ca N.iq 0 [] [.l 3,.l 0]),u (.pk l6 l0 (.b false)),m l0,y 0 true (.fa v3 1),i 1 true l0,y 2 true (.fa v2 0),i 3 true l0,y 4 true (.ln l0),y 5 true (.ca N.iq 0 [] [.l 3,.l 0]),u (.pk l6 l0 (.b false)),m l0,y 0 true (.fa v3 2),i 1 true l0,y 2 true (.fa v2 1),i 3 true l0,y 4 true (.ln l0),y 5 true (.ca N.iq 0 [] [.l 3,.l 0]),u (.pk l6 l0 (.b false)),m l0,y 0 true (.fa v3 3),i 1 true l0,y 2 true (.bin .geq l0 (.i 0)),u (.pk l3 l0 (.b false)),m l0,y 0 true (.fa v3 3),i 1 true l0,y 2 true (.bin .leq l0 (.i 2147483648)),u (.pk l3 l0 (.b false)),x 4 l0] [] .ret)),res:=[(4,none)]}
def fm:Fn:= { aP:=3,vars:=[0,1,2,3,4,6],body:=(q [w 3 (.bx v0 2),w 4 (.bx v1 4),x 5 (.b false)] [] (q [f 0 v3,g l0,m v2,a 2 l1 l0,f 1 l0,g l0,m l0,y 0 false (.fa v4 0),i 1 false l0,e 2 false v2,y 3 false (.ca N.c7 0 [] [.l 1,.l 0]),u (.pk l4 (.b true) l0),x 5 l0] [] .ret)),res:=[(5,none)]}
def eB:Fn:= { aP:=3,vars:=[0,1,2,3,6,7,8],body:=(q [w 3 (.bx v0 2),x 4 (.i 0),x 5 (.i 0)] [] (q [f 1 v3,g l0,m v1,a 10 l1 l0,h 10 l0,w 6 (.al [z0,z0,z0,z0,z1,z1,z0,z0,z0,z0] []),u (.st l0 l1 10 [])] [] (.seq (.ite [f 0 v6,g l0,m v2,u (.bin .eql l1 l0)] [] 0 (q [f 1 v6,g l0,h 2 v3,m v1,u (.ca N.fW 0 [] [.l 1,.l 0,.b false]),x 4 l3,x 5 l1] [(1,5)] .ret) .skip) (.seq (.ite [f 1 v6,g l0,m v2,u (.bin .eql l1 l0)] [] 0 (q [f 0 v6,g l0,h 2 v3,m v1,u (.ca N.fW 0 [] [.l 1,.l 0,.b true]),x 4 l3,x 5 l1] [(1,5)] .ret) .skip) (q [x 4 (.i 0),w 5 (.mv (.i (-1)))] [] .ret))))),res:=[(4,none),(5,none)]}
def vq:C:= (.its [u (.bin .lss v15 v14)] [] 0 .skip (.exit 0) (.seq (.blk 1 (q [a 1 v13 v15,g l0,x 12 l0] [] (.reg [f 3 v9,g l0,m v12,a 1 l1 l0,u (.st l0 (.b true) 1 [])] []))) (.reg [u (.bin .add v15 (.i 1)),x 15 l0] [])))
def Dd:C:= .loop true [0,1,3,4,6,8,10,11,12] K.vq
def ja:Fn:= { aP:=3,vars:=[0,1,2,3,4,6,7,8,9,10,11,12,14,44,45,46],body:=(q [w 3 (.bx v0 2),w 4 (.bx v1 4),w 5 (.al [.nil] []),w 6 (.mv (.c (.nil))),w 7 (.al [z0,z0] []),x 8 (.b false)] [] (.seq (.ite [h 2 v3,h 4 v4,m v2,u (.ca N.iK 0 [] [.l 2,.l 1,.l 0]),u (.un .not l0)] [] 0 (q [h 2 v7,u (.st v5 (.c (.nil)) 1 []),w 6 (.mv (.c (.nil))),u (.st v7 l2 2 []),x 8 (.b false)] [(0,2)] .ret) .skip) (q [h 2 v3,h 4 v4,u (.ca N.iT 1 [] [.l 1,.l 0]),w 9 (.al [z0,.nil,.nil,.nil] []),u (.st l0 l1 4 [])] [] (.seq (.ite [f 2 v9,g l0,m v2,a 1 l1 l0,g l0] [] 0 (q [h 2 v7,u (.st v5 (.c (.nil)) 1 []),w 6 (.mv (.c (.nil))),u (.st v7 l2 2 []),x 8 (.b true)] [(0,2)] .ret) .skip) (q [h 4 v9,m v2,u (.ca N.cj 0 [0] [.l 1,.l 0]),m l0,u (.ex l0 0),u (.ex l1 1),u (.ex l2 2),u (.ex l3 3),u (.st v5 l3 1 []),x 10 l3,x 11 l3,x 8 l3] [] (.seq (.ite [m v8,u (.un .not l0)] [] 0 (q [h 2 v7,u (.st v5 (.c (.nil)) 1 []),w 6 (.mv (.c (.nil))),u (.st v7 l2 2 []),x 8 (.b false)] [(0,2)] .ret) .skip) (q [m v10,u (.iaa v7 (.i 0) 2 1),u (.st l0 l1 1 [])] [] (.seq (q [m v11,w 13 (.sc l0 (some (.i 1)) none 1),w 14 (.ln l0),x 15 (.i 0)] [] (.blk 0 K.Dd)) (q [f 1 v9,g l0,u (.mf N.dL [.v 5]),u (.ca N.aE 1 [0] [.l 1,.l 0]),f 1 v9,u (.st l0 l1 1 [])] [] (q [h 4 v9,m v2,u (.ca N.cj 0 [0] [.l 1,.l 0]),m l0,u (.ex l0 0),u (.ex l1 1),u (.ex l2 2),u (.ex l3 3),x 6 l3,u (.iaa v7 (.i 1) 2 1),u (.st l0 l4 1 []),x 8 l3] [] (.seq (.ite [m v8,u (.un .not l0)] [] 0 (q [h 2 v7,u (.st v5 (.c (.nil)) 1 []),w 6 (.mv (.c (.nil))),u (.st v7 l2 2 []),x 8 (.b false)] [(0,2)] .ret) .skip) (q [g v5,m v6,h 2 v7,u (.st v5 l2 1 []),x 6 l2,u (.st v7 l2 2 []),x 8 (.b true)] [(2,4)] .ret)))))))))))),res:=[(5,some (1,false)),(6,none),(7,some (2,true)),(8,none)]}
def vu:C:= (.its [u (.bin .lss v9 v8)] [] 0 .skip (.exit 0) (.seq (.blk 1 (q [m v9,a 10 v7 v9,h 10 l0,w 6 (.al [z0,z0,z0,z0,z1,z1,z0,z0,z0,z0] []),x 5 l3,u (.st l1 l2 10 [])] [] (.seq (.ite [f 1 v6,g l0,m v1,u (.bin .eql l1 l0)] [] 0 (.reg [m v4,h 2 v2,m v5,u (.ca N.jz 0 [] [.l 1,.l 0,.b false]),u (.mx [.l 3,.l 0]),x 4 l0] []) .skip) (.ite [f 0 v6,g l0,m v1,u (.bin .eql l1 l0)] [] 0 (.reg [m v4,h 2 v2,m v5,u (.ca N.jz 0 [] [.l 1,.l 0,.b true]),u (.mx [.l 3,.l 0]),x 4 l0] []) .skip)))) (.reg [u (.bin .add v9 (.i 1)),x 9 l0] [])))
def De:C:= .loop true [0,3,5,6] K.vu
def nQ:Fn:= { aP:=2,vars:=[0,1,2,4,5,6,7,9,10,11],body:=(q [w 2 (.bx v0 2),x 3 (.i 0)] [] (q [x 4 (.i 0)] [] (.seq (q [f 1 v2,w 7 (.ld l0 1 false),w 8 (.ln l0),x 9 (.i 0)] [] (.blk 0 K.De)) (q [m v4,x 3 l0] [] .ret)))),res:=[(3,none)]}
def lF:Fn:= { aP:=2,vars:=[0,1,4],body:=(q [w 2 (.mv (.c (.nil)))] [] (q [m v0,m v1,u (.ca N.iS 0 [] [.l 1,.l 0]),x 2 l0] [] .ret)),res:=[(2,none)]}
def gp:C:= (.its [u (.bin .lss v8 v7)] [] 0 .skip (.exit 0) (.seq (.blk 1 (q [a 1 v6 v8,g l0,x 3 l0] [] (q [m v2,m v3,u (.ln l0),u (.bin .add l2 l0),x 2 l0] [] (.ite [m v2,u (.bin .lss l0 (.i 0))] [] 0 .fail .skip)))) (.reg [u (.bin .add v8 (.i 1)),x 8 l0] [])))
def mi:C:= .loop true [1,3,4,5,9,10,11] K.gp
def gq:C:= (.its [u (.bin .lss v11 v10)] [] 0 .skip (.exit 2) (.seq (.blk 3 (q [a 1 v9 v11,g l0,x 5 l0] [] (.reg [m v4,m v5,u (.app l1 l0 true 1),x 4 l0] []))) (.reg [u (.bin .add v11 (.i 1)),x 11 l0] [])))
def mj:C:= .loop true [0,1,2,3,5,6,7,8] K.gq
def bH:Fn:= { aP:=1,vars:=[0,2,3,5,6,8,9,10,11,25,26,27],body:=(q [w 1 (.mv (.c (.nil)))] [] (q [x 2 (.i 0)] [] (.seq (q [x 6 v0,w 7 (.ln l0),x 8 (.i 0)] [] (.blk 0 K.mi)) (q [m v2,u (.ca N.cF 1 [0] [.c (.nil),.l 0]),x 4 l0] [] (.seq (q [x 9 v0,w 10 (.ln l0),x 11 (.i 0)] [] (.blk 2 K.mj)) (q [m v4,x 1 l0] [] .ret)))))),res:=[(1,none)]}
def fF:C:= (.seq (.ite [m v4,m v3,u (.ln l0),u (.bin .lss l2 l0)] [] 0 .skip (.exit 2)) (.seq (.blk 3 (.ite [m v3,m v4,a 1 l1 l0,g l0,m v3,m v4,u (.bin .sub l0 (.i 1)),a 1 l2 l0,g l0,u (.bin .neq l5 l0)] [] 0 (q [m v0,m v2,m v3,m v4,a 1 l1 l0,g l0,a 1 l5 l4,u (.st l0 l1 1 [])] [] (.reg [m v2,u (.bin .add l0 (.i 1)),x 2 l0] [])) .skip)) (.reg [m v4,u (.bin .add l0 (.i 1)),x 4 l0] [])))
def lH:C:= .loop true [1] K.fF
def cU:C:= (.seq (.ite [m v2,m v0,u (.ln l0),u (.bin .lss l2 l0)] [] 0 .skip (.exit 0)) (.seq (.blk 1 (.ite [m v0,m v2,a 1 l1 l0,g l0,m v0,m v2,u (.bin .sub l0 (.i 1)),a 1 l2 l0,g l0,u (.bin .eql l5 l0)] [] 0 (q [m v0,m v2,u (.sc l1 (some l0) none 1),x 3 l0] [] (.seq (q [x 4 (.i 1)] [] (.blk 2 K.lH)) (q [m v0,m v2,u (.sc l1 (some l0) none 1),u (.clr l0 (.int .i64 (0)) 1)] [] (q [m v0,m v2,u (.pop l1 l0),x 1 l0] [] .ret)))) .skip)) (.reg [m v2,u (.bin .add l0 (.i 1)),x 2 l0] [])))
def i5:C:= .loop true [1,3,4] K.cU
def bf:Fn:= { aP:=1,vars:=[0,2,3,4,5],body:=(q [w 1 (.mv (.c (.nil)))] [] (.seq (.ite [m v0,u (.ln l0),u (.bin .lss l0 (.i 2))] [] 0 (q [m v0,x 1 l0] [] .ret) .skip) (.seq (q [x 2 (.i 1)] [] (.blk 0 K.i5)) (q [m v0,x 1 l0] [] .ret)))),res:=[(1,none)]}
def oG:C:= (.seq (.ite [m v6,f 0 v2,g l0,u (.ln l0),u (.bin .lss l3 l0)] [] 0 .skip (.exit 0)) (.seq (.blk 1 (q [u (.bd [z0,z0] [(0,1,.i 1099511627776),(1,1,.i 0)]),w 7 (.al [z0,z0] []),u (.st l0 l1 2 [])] [] (.seq (.ite [h 2 v2,h 4 v3,m v6,u (.ca N.fm 0 [] [.l 2,.l 1,.l 0]),m l0,y 0 true (.fa v3 1),i 1 true l0,e 2 true v6,y 3 true (.ca N.c7 0 [] [.l 1,.l 0]),y 4 true (.un .not l0),u (.pk l5 l0 (.b false))] [] 0 (.reg [f 0 v7,u (.st l0 (.i 0) 1 [])] []) .skip) (.reg [m v5,h 2 v7,u (.bs [.l 0] 2),u (.app l2 l0 true 2),x 5 l0] [])))) (.reg [m v6,u (.bin .add l0 (.i 1)),x 6 l0] [])))
def p4:C:= .loop true [0,1,4,7,8,9,10,11,12,13] K.oG
def fy:C:= (.seq (.ite [m v10,f 1 v2,g l0,u (.ln l0),u (.bin .lss l3 l0)] [] 0 .skip (.exit 6)) (.seq (.blk 7 (q [h 2 v2,m v10,m v9,u (.ca N.eB 0 [] [.l 2,.l 1,.l 0]),m l0,u (.ex l0 0),u (.ex l1 1),x 11 l1,x 12 l1] [] (.seq (.ite [m v12,u (.bin .lss l0 (.i 0)),m l0,y 0 false (.fa v3 2),i 1 false l0,e 2 false v10,y 3 false (.ca N.c7 0 [] [.l 1,.l 0]),u (.pk l4 (.b true) l0),m l0,y 0 false (.fa v3 1),i 1 false l0,e 2 false v11,y 3 false (.ca N.c7 0 [] [.l 1,.l 0]),u (.pk l4 (.b true) l0),m l0,e 0 false v5,e 1 false v11,y 2 false (.ia l1 l0 2),y 3 false (.fa l0 0),i 4 false l0,y 5 false (.bin .geq l0 (.i 1099511627776)),u (.pk l6 (.b true) l0)] [] 0 (.exit 7) .skip) (q [w 13 (.al [z0,z0] []),m v5,m v11,a 2 l1 l0,f 0 l0,g l0,m v12,u (.bin .add l1 l0),m v5,m v11,a 2 l1 l0,f 1 l0,g l0,u (.bin .add l0 (.i 1)),u (.bd [z0,z0] [(0,1,.l 6),(1,1,.l 0)]),u (.st (.l 14) l0 2 [])] [] (.ite [h 2 v13,m v5,m v9,a 2 l1 l0,h 2 l0,u (.ca N.hU 0 [] [.l 4,.l 0])] [] 0 (.reg [m v5,m v9,h 2 v13,a 2 l2 l1,u (.st l0 l1 2 []),x 8 (.b true)] []) .skip))))) (.reg [m v10,u (.bin .add l0 (.i 1)),x 10 l0] [])))
def vv:C:= .loop true [0,1,4,6,7,11,12,13] K.fy
def lL:C:= (.seq (.ite [m v9,f 0 v2,g l0,u (.ln l0),u (.bin .lss l3 l0)] [] 0 .skip (.exit 4)) (.seq (.blk 5 (.seq (.ite [h 2 v2,h 4 v3,m v9,u (.ca N.fm 0 [] [.l 2,.l 1,.l 0])] [] 0 (.exit 5) .skip) (q [x 10 (.i 0)] [] (.blk 6 K.vv)))) (.reg [m v9,u (.bin .add l0 (.i 1)),x 9 l0] [])))
def vw:C:= .loop true [0,1,4,6,7,10,11,12,13] K.lL
def oH:C:= (.seq (.ite [m v8] [] 0 .skip (.exit 2)) (.blk 3 (q [x 8 (.b false)] [] (q [x 9 (.i 0)] [] (.blk 4 K.vw)))))
def vz:C:= .loop true [0,1,4,6,7,9,10,11,12,13] K.oH
def gZ:Fn:= { aP:=2,vars:=[0,1,2,3,4,5,6,7,8,9,10,11,12,13],body:=(q [w 2 (.bx v0 2),w 3 (.bx v1 4),w 4 (.mv (.c (.nil)))] [] (q [w 5 (.nw 2)] [] (.seq (q [x 6 (.i 0)] [] (.blk 0 K.p4)) (.seq (q [x 8 (.b true)] [] (.blk 2 K.vz)) (q [m v5,x 4 l0] [] .ret))))),res:=[(4,none)]}
def oY:C:= (.seq (.ite [m v3,m v0,u (.ln l0),u (.bin .lss l2 l0),m l0,e 0 true v0,e 1 true v3,y 2 true (.ia l1 l0 1),i 3 true l0,e 4 true v1,y 5 true (.bin .lss l1 l0),u (.pk l6 l0 (.b false))] [] 0 .skip (.exit 0)) (.blk 1 (.reg [m v3,u (.bin .add l0 (.i 1)),x 3 l0] [])))
def Bd:C:= .loop true [2] K.oY
def iS:Fn:= { aP:=2,vars:=[0,1,4,5],body:=(q [w 2 (.mv (.c (.nil)))] [] (q [x 3 (.i 0)] [] (.seq (.blk 0 K.Bd) (.seq (.ite [m v3,m v0,u (.ln l0),u (.bin .lss l2 l0),m l0,e 0 true v0,e 1 true v3,y 2 true (.ia l1 l0 1),i 3 true l0,e 4 true v1,y 5 true (.bin .eql l1 l0),u (.pk l6 l0 (.b false))] [] 0 (q [m v0,u (.app (.c (.nil)) l0 true 1),x 2 l0] [] .ret) .skip) (q [m v0,m v3,u (.sc l1 none (some l0) 1),u (.app (.c (.nil)) l0 true 1),m v1,u (.bs [.l 0] 1),u (.app l2 l0 true 1),m v0,m v3,u (.sc l1 (some l0) none 1),u (.app l3 l0 true 1),x 2 l0] [(5,0),(9,0),(9,4)] .ret))))),res:=[(2,none)]}
def iK:Fn:= { aP:=3,vars:=[0,1,2,3,4,6],body:=(q [w 3 (.bx v0 2),w 4 (.bx v1 4),x 5 (.b false)] [] (q [h 2 v3,h 4 v4,u (.ca N.fU 0 [] [.l 1,.l 0]),m l0,e 0 true v2,y 1 true (.fa v3 0),i 2 true l0,y 3 true (.ln l0),y 4 true (.bin .sub l0 (.i 1)),y 5 true (.ca N.eW 0 [] [.l 4,.i 0,.l 0]),u (.pk l6 l0 (.b false)),x 5 l0] [] .ret)),res:=[(5,none)]}
def tG:C:= (.its [u (.bin .lss v16 v15)] [] 0 .skip (.exit 0) (.seq (.blk 1 (q [m v16,a 2 v14 v16,h 2 l0,w 7 (.al [z0,z1] []),x 6 l3,u (.st l1 l2 2 [])] [] (.reg [f 2 v5,g l0,m v6,f 1 v7,g l0,a 1 l3 l2,u (.st l0 l1 1 [])] []))) (.reg [u (.bin .add v16 (.i 1)),x 16 l0] [])))
def Be:C:= .loop true [0,1,6,7,8,9,10,11,12,13,17,18,19,20,21,22,23,24,25] K.tG
def tH:C:= (.its [u (.bin .lss v19 v18)] [] 0 .skip (.exit 2) (.seq (.blk 3 (q [a 1 v17 v19,g l0,x 8 l0] [] (.reg [f 2 v5,g l0,m v8,a 1 l1 l0,u (.st l0 (.b true) 1 [])] []))) (.reg [u (.bin .add v19 (.i 1)),x 19 l0] [])))
def Bf:C:= .loop true [0,1,6,7,8,9,10,11,12,13,14,15,16,20,21,22,23,24,25] K.tH
def tJ:C:= (.its [u (.bin .lss v22 v21)] [] 0 .skip (.exit 4) (.seq (.blk 5 (q [a 1 v20 v22,g l0,x 9 l0] [] (.reg [f 3 v5,g l0,m v9,a 1 l1 l0,u (.st l0 (.b true) 1 [])] []))) (.reg [u (.bin .add v22 (.i 1)),x 22 l0] [])))
def Bg:C:= .loop true [0,1,6,7,8,9,10,11,12,13,14,15,16,17,18,19,23,24,25] K.tJ
def jJ:C:= (.its [u (.bin .lss (.v 25) (.v 24))] [] 0 .skip (.exit 6) (.seq (.blk 7 (q [m (.v 25),a 10 v23 (.v 25),h 10 l0,w 11 (.al [z0,z0,z0,z0,z1,z1,z0,z0,z0,z0] []),x 10 l3,u (.st l1 l2 10 [])] [] (.seq (.ite [f 2 v3,g l0,m v10,u (.ca N.aQ 0 [] [.l 1,.l 0])] [] 0 (.exit 7) .skip) (.seq (q [h 2 v2,m v10,u (.ca N.jz 0 [] [.l 1,.l 0,.b false]),x 12 l0] [] (.ite [m v12,u (.bin .geq l0 (.i 0))] [] 0 (.reg [f 1 v5,g l0,m v10,f 0 v11,g l0,f 1 v11,g l0,m v12,u (.bd [z0,z0,z0,z0] [(0,1,.l 5),(1,1,.l 3),(2,1,.l 1),(3,1,.l 0)]),u (.bs [.l 0] 4),u (.app l8 l0 true 4),f 1 v5,u (.st l0 l1 1 [])] []) .skip)) (q [h 2 v2,m v10,u (.ca N.jz 0 [] [.l 1,.l 0,.b true]),x 13 l0] [] (.ite [m v13,u (.bin .geq l0 (.i 0))] [] 0 (.reg [f 1 v5,g l0,m v10,f 1 v11,g l0,f 0 v11,g l0,m v13,u (.bd [z0,z0,z0,z0] [(0,1,.l 5),(1,1,.l 3),(2,1,.l 1),(3,1,.l 0)]),u (.bs [.l 0] 4),u (.app l8 l0 true 4),f 1 v5,u (.st l0 l1 1 [])] []) .skip)))))) (.reg [u (.bin .add (.v 25) (.i 1)),x 25 l0] [])))
def Bh:C:= .loop true [0,1,6,7,8,9,10,11,12,13,14,15,16,17,18,19,20,21,22] K.jJ
def iT:Fn:= { aP:=2,vars:=[0,1,2,3,4,5,6,7,9,11,12,13,14,15,29,30,31,44,45,46,56,57,58,68,69,70],body:=(q [w 2 (.bx v0 2),w 3 (.bx v1 4),w 4 (.al [z0,.nil,.nil,.nil] [])] [] (q [w 5 (.al [z0,.nil,.nil,.nil] [(1,4)]),f 0 v2,g l0,u (.ln l0),f 0 v2,g l0,u (.ln l0),u (.mkn l0 (.bool false) 1),f 0 v2,g l0,u (.ln l0),u (.mkn l0 (.bool false) 1),u (.bd [z0,.nil,.nil,.nil] [(0,1,.l 8),(2,1,.l 4),(3,1,.l 0)]),u (.st (.l 12) l0 4 [(1,4)])] [(2,12),(5,12),(9,12)] (.seq (q [f 0 v2,w 14 (.ld l0 1 false),w 15 (.ln l0),x 16 (.i 0)] [] (.blk 0 K.Be)) (.seq (q [f 0 v3,w 17 (.ld l0 1 false),w 18 (.ln l0),x 19 (.i 0)] [] (.blk 2 K.Bf)) (.seq (q [f 1 v3,w 20 (.ld l0 1 false),w 21 (.ln l0),x 22 (.i 0)] [] (.blk 4 K.Bg)) (.seq (q [f 1 v2,w 23 (.ld l0 1 false),w 24 (.ln l0),x 25 (.i 0)] [] (.blk 6 K.Bh)) (q [h 4 v5,u (.st v4 l0 4 [])] [] .ret))))))),res:=[(4,some (4,true))]}
def fo:C:= (.seq (.ite [f 2 v2,g l0,g v8,a 1 l1 l0,g l0,u (.un .not l0)] [] 0 .skip (.exit 0)) (.seq (.blk 1 (q [f 1 v2,g l0,u (.mf N.aF [.v 8,.v 2,.v 7]),u (.ca N.ax 0 [0] [.l 1,.l 0]),x 9 l0] [] (q [f 1 v2,g l0,m v9,a 4 l1 l0,f 2 l0,g l0,u (.st v8 l0 1 [])] [] (.reg [m v3,f 1 v2,g l0,m v9,a 4 l1 l0,f 0 l0,g l0,u (.bs [.l 0] 1),u (.app l7 l0 true 1),m v5,g v8,u (.bs [.l 0] 1),u (.app l2 l0 true 1),x 3 l4,x 5 l1] [(7,7),(10,0),(11,0)])))) (q [w 10 (.ld v8 1 false)] [] (.reg [w 8 (.al [z0] []),u (.st l0 v10 1 [])] []))))
def p5:C:= .loop false [0,4,6,9,10] K.fo
def cj:Fn:= { aP:=2,vars:=[0,1,2,4,5,6,7,8,9,10,51],body:=(q [w 2 (.bx v0 4),w 3 (.nw 1),x 4 (.i 0),w 5 (.nw 1),x 6 (.b false)] [] (q [h 4 v2,u (.ca N.dm 0 [0] [.l 0]),w 7 (.al [.nil] []),u (.st l0 l1 1 [])] [] (.seq (.ite [g v7,m v1,a 2 l1 l0,f 0 l0,g l0,u (.bin .geq l0 (.i 1152921504606846976))] [] 0 (q [w 3 (.nw 1),x 4 (.i 0),w 5 (.nw 1),x 6 (.b false)] [] .ret) .skip) (q [m v1,u (.bsr [.l 0] 1),x 5 l0] [] (.seq (q [m v1,w 8 (.al [z0] []),u (.st l0 l1 1 [])] [] (.blk 0 K.p5)) (q [m v3,g v7,m v1,a 2 l1 l0,f 0 l0,g l0,m v5,x 3 l6,x 4 l2,x 5 l2,x 6 (.b true)] [] .ret)))))),res:=[(3,none),(4,none),(5,none),(6,none)]}
def bS:C:= (.seq (.ite [m v4,m v0,u (.ln l0),u (.bin .lss l2 l0)] [] 0 .skip (.exit 0)) (.seq (.blk 1 (q [m v0,m v4,a 4 l1 l0,h 4 l0,w 5 (.al [z0,z0,z0,z0] []),u (.st l0 l1 4 [])] [] (.ite [m v1,h 4 v5,u (.cw l1 0 [] [.l 0]),u (.un .not l0)] [] 0 (q [m v0,m v3,h 4 v5,a 4 l2 l1,u (.st l0 l1 4 [])] [] (.reg [m v3,u (.bin .add l0 (.i 1)),x 3 l0] [])) .skip))) (.reg [m v4,u (.bin .add l0 (.i 1)),x 4 l0] [])))
def fY:C:= .loop true [2,5] K.bS
def aE:Fn:= { aP:=2,vars:=[0,1,4,5,6,7],body:=(q [w 2 (.mv (.c (.nil)))] [] (q [m v0,m v1,u (.ca N.ax 0 [0] [.l 1,.l 0]),x 3 l0] [] (.seq (.ite [m v3,u (.bin .eql l0 (.i (-1)))] [] 0 (q [m v0,x 2 l0] [] .ret) .skip) (.seq (q [m v3,u (.bin .add l0 (.i 1)),x 4 l0] [] (.blk 0 K.fY)) (q [m v0,m v3,u (.sc l1 (some l0) none 4),u (.clr l0 (.agg [(.int .i64 (0)),(.int .i64 (0)),(.int .i64 (0)),(.int .i64 (0))]) 4)] [] (q [m v0,m v3,u (.pop l1 l0),x 2 l0] [] .ret)))))),res:=[(2,none)]}
def dL:Fn:= { aP:=2,vars:=[0,1,2,3],body:=(q [w 2 (.bx v0 4),x 3 (.b false)] [] (q [g v1,f 0 v2,g l0,u (.ca N.aQ 0 [] [.l 2,.l 0]),x 3 l0] [] .ret)),res:=[(3,none)]}
def jz:Fn:= { aP:=3,vars:=[0,1,2,3,6],body:=(q [w 3 (.bx v0 2),x 4 (.i 0)] [] (.seq (.ite [h 2 v3,u (.ca N.dW 0 [] [.l 0]),u (.un .not l0),m l0,e 0 false v1,y 1 false (.bin .lss l0 (.i 0)),u (.pk l2 (.b true) l0),m l0,e 0 false v1,y 1 false (.fa v3 1),i 2 false l0,y 3 false (.ln l0),y 4 false (.bin .geq l3 l0),u (.pk l5 (.b true) l0)] [] 0 (q [w 4 (.mv (.i (-1)))] [] .ret) .skip) (q [h 2 v3,m v1,m v2,u (.ca N.lG 0 [] []),u (.ca N.fJ 0 [] [.l 3,.l 2,.l 1,.l 0]),x 4 l0] [(0,4)] .ret))),res:=[(4,none)]}
def cF:Fn:= { aP:=2,vars:=[4],body:= .fail,res:=[(0,none)],prim:=[4]}
def hU:Fn:= { aP:=2,vars:=[0,1,2,3,4],body:=(q [w 2 (.bx v0 2),w 3 (.bx v1 2),x 4 (.b false)] [] (q [f 0 v2,g l0,f 0 v3,g l0,u (.bin .lss l2 l0),m l0,y 0 false (.fa v2 0),i 1 false l0,y 2 false (.fa v3 0),i 3 false l0,y 4 false (.bin .eql l2 l0),e 5 false l0,y 0 true (.fa v2 1),i 1 true l0,y 2 true (.fa v3 1),i 3 true l0,y 4 true (.bin .lss l2 l0),y 11 false (.pk l5 l0 (.b false)),u (.pk (.l 12) (.b true) l0),x 4 l0] [] .ret)),res:=[(4,none)]}
def iU:C:= (.its [u (.bin .lss v9 v8)] [] 0 .skip (.exit 0) (.seq (.blk 1 (q [m v9,x 4 l0] [] (.ite [f 2 v1,g l0,m v4,a 1 l1 l0,g l0,u (.un .not l0)] [] 0 (.reg [m v3,m v4,a 2 l1 l0,f 0 l0,u (.st l0 (.i 1152921504606846976) 1 [])] []) .skip))) (.reg [u (.bin .add v9 (.i 1)),x 9 l0] [])))
def oN:C:= .loop true [0,2,4,5,6,7,10,11,12] K.iU
def eI:C:= (.its [u (.bin .lss v12 v11)] [] 0 .skip (.exit 4) (.seq (.blk 5 (q [a 4 v10 v12,h 4 l0,w 6 (.al [z0,z0,z0,z0] []),u (.st l0 l1 4 [])] [] (q [w 7 (.al [z0,z0] []),m v3,f 2 v6,g l0,a 2 l2 l0,f 0 l0,g l0,f 3 v6,g l0,u (.bin .add l2 l0),m v3,f 2 v6,g l0,a 2 l2 l0,f 1 l0,g l0,u (.bin .add l0 (.i 1)),u (.bd [z0,z0] [(0,1,.l 7),(1,1,.l 0)]),u (.st (.l 17) l0 2 [])] [] (.ite [h 4 v1,h 4 v6,u (.ca N.cC 0 [0] [.l 1,.l 0]),m l0,e 0 true v3,y 1 true (.fa v6 2),i 2 true l0,y 3 true (.ia l2 l0 2),y 4 true (.fa l0 0),i 5 true l0,y 6 true (.bin .lss l0 (.i 1152921504606846976)),u (.pk l7 l0 (.b false)),m l0,y 0 true (.ld v7 2 true),e 1 true v3,y 2 true (.fa v6 1),i 3 true l0,y 4 true (.ia l2 l0 2),y 5 true (.ld l0 2 true),y 6 true (.ca N.eT 0 [] [.l 5,.l 0]),u (.pk l7 l0 (.b false))] [] 0 (.reg [m v3,f 1 v6,g l0,h 2 v7,a 2 l3 l1,u (.st l0 l1 2 []),x 5 (.b true)] []) .skip)))) (.reg [u (.bin .add v12 (.i 1)),x 12 l0] [])))
def oO:C:= .loop true [0,2,4,6,7,8,9] K.eI
def kz:C:= (.seq (.ite [m v5] [] 0 .skip (.exit 2)) (.blk 3 (q [x 5 (.b false)] [] (q [f 1 v1,w 10 (.ld l0 1 false),w 11 (.ln l0),x 12 (.i 0)] [] (.blk 4 K.oO)))))
def oP:C:= .loop true [0,2,4,6,7,8,9,10,11,12] K.kz
def dm:Fn:= { aP:=1,vars:=[0,1,2,3,4,5,7,8,13,14,30,31,32],body:=(q [w 1 (.bx v0 4),w 2 (.mv (.c (.nil)))] [] (q [f 0 v1,g l0,u (.mk l0 (.t (.agg [(.int .i64 (0)),(.int .i64 (0))])) 2),x 3 l0] [] (.seq (q [m v3,w 8 (.ln l0),x 9 (.i 0)] [] (.blk 0 K.oN)) (.seq (q [x 5 (.b true)] [] (.blk 2 K.oP)) (q [m v3,x 2 l0] [] .ret))))),res:=[(2,none)]}
end Go.Ev.K
namespace Go.Ev
class eC [Lib]:Prop where
 oZ:Lib.fs N.cX=some K.cX
 tK:Lib.fs N.fV=some K.fV
 o5:Lib.fs N.dC=some K.dC
 rk:Lib.fs N.dV=some K.dV
 o6:Lib.fs N.gQ=some K.gQ
 tM:Lib.fs N.i4=some K.i4
 kT:Lib.fs N.bO=some K.bO
 qx:Lib.fs N.fk=some K.fk
 p6:Lib.fs N.gl=some K.gl
 vA:Lib.fs N.fW=some K.fW
 o7:Lib.fs N.dR=some K.dR
 vB:Lib.fs N.fm=some K.fm
 tN:Lib.fs N.eB=some K.eB
 we:Lib.fs N.ja=some K.ja
 Ay:Lib.fs N.nQ=some K.nQ
 x9:Lib.fs N.lF=some K.lF
 jK:Lib.fs N.bH=some K.bH
 gJ:Lib.fs N.bf=some K.bf
 rq:Lib.fs N.gZ=some K.gZ
 ya:Lib.fs N.iS=some K.iS
 qy:Lib.fs N.iK=some K.iK
 yb:Lib.fs N.iT=some K.iT
 m7:Lib.fs N.cj=some K.cj
 dD:Lib.fs N.aE=some K.aE
 vC:Lib.fs N.dL=some K.dL
 yc:Lib.fs N.jz=some K.jz
 kB:Lib.fs N.cF=some K.cF
 ru:Lib.fs N.hU=some K.hU
 lY:Lib.fs N.dm=some K.dm
namespace K
variable [Lib] [eC]
theorem oZ:Lib.fs N.cX=some K.cX:=eC.oZ
theorem tK:Lib.fs N.fV=some K.fV:=eC.tK
theorem o5:Lib.fs N.dC=some K.dC:=eC.o5
theorem rk:Lib.fs N.dV=some K.dV:=eC.rk
theorem o6:Lib.fs N.gQ=some K.gQ:=eC.o6
theorem tM:Lib.fs N.i4=some K.i4:=eC.tM
theorem kT:Lib.fs N.bO=some K.bO:=eC.kT
theorem qx:Lib.fs N.fk=some K.fk:=eC.qx
theorem p6:Lib.fs N.gl=some K.gl:=eC.p6
theorem vA:Lib.fs N.fW=some K.fW:=eC.vA
theorem o7:Lib.fs N.dR=some K.dR:=eC.o7
theorem vB:Lib.fs N.fm=some K.fm:=eC.vB
theorem tN:Lib.fs N.eB=some K.eB:=eC.tN
theorem we:Lib.fs N.ja=some K.ja:=eC.we
theorem Ay:Lib.fs N.nQ=some K.nQ:=eC.Ay
theorem x9:Lib.fs N.lF=some K.lF:=eC.x9
theorem jK:Lib.fs N.bH=some K.bH:=eC.jK
theorem gJ:Lib.fs N.bf=some K.bf:=eC.gJ
theorem rq:Lib.fs N.gZ=some K.gZ:=eC.rq
theorem ya:Lib.fs N.iS=some K.iS:=eC.ya
theorem qy:Lib.fs N.iK=some K.iK:=eC.qy
theorem yb:Lib.fs N.iT=some K.iT:=eC.yb
theorem m7:Lib.fs N.cj=some K.cj:=eC.m7
theorem dD:Lib.fs N.aE=some K.aE:=eC.dD
theorem vC:Lib.fs N.dL=some K.dL:=eC.vC
theorem yc:Lib.fs N.jz=some K.jz:=eC.yc
theorem kB:Lib.fs N.cF=some K.cF:=eC.kB
theorem ru:Lib.fs N.hU=some K.hU:=eC.ru
theorem lY:Lib.fs N.dm=some K.dm:=eC.lY
end K
end Go.Ev
namespace Go.Ev.K
open Go.Ev
def aU:C:= (.its [u (.bin .lss v5 v4)] [] 0 .skip (.exit 0) (.seq (.blk 1 (q [m v5,x 3 l0] [] (.ite [m v1,m v0,m v3,a 4 l1 l0,h 4 l0,u (.cw l4 0 [] [.l 0])] [] 0 (q [m v3,x 2 l0] [] .ret) .skip))) (.reg [u (.bin .add v5 (.i 1)),x 5 l0] [])))
def dE:C:= .loop true [2,3] K.aU
def ax:Fn:= { aP:=2,vars:=[0,1,4,5,7,8],body:=(q [x 2 (.i 0)] [] (.seq (q [m v0,w 4 (.ln l0),x 5 (.i 0)] [] (.blk 0 K.dE)) (q [w 2 (.mv (.i (-1)))] [] .ret))),res:=[(2,none)]}
def aF:Fn:= { aP:=4,vars:=[0,1,2,3,4,5],body:=(q [w 4 (.bx v0 4),x 5 (.b false)] [] (q [f 1 v4,g l0,g v1,u (.bin .eql l1 l0),m l0,y 0 true (.ld v2 4 true),y 1 true (.ld v4 4 true),y 2 true (.ca N.cC 0 [0] [.l 1,.l 0]),u (.pk l3 l0 (.b false)),m l0,i 0 true v3,y 1 true (.fa v4 2),i 2 true l0,y 3 true (.ia l2 l0 2),y 4 true (.ld l0 2 true),i 5 true v3,i 6 true v1,y 7 true (.ia l1 l0 2),y 8 true (.fa l0 0),i 9 true l0,y 10 true (.fa v4 3),i 11 true l0,y 12 true (.bin .sub l2 l0),i 13 true v3,i 14 true v1,y 15 true (.ia l1 l0 2),y 16 true (.fa l0 1),i 17 true l0,y 18 true (.bin .sub l0 (.i 1)),y 19 true (.bd [z0,z0] [(0,1,.l 6),(1,1,.l 0)]),y 20 true (.eqk (.ints 2) false (.l 15) l0),u (.pk (.l 21) l0 (.b false)),x 5 l0] [] .ret)),res:=[(5,none)]}
def cC:Fn:= { aP:=2,vars:=[0,1,2,3,4],body:=(q [w 2 (.bx v0 4),w 3 (.bx v1 4),x 4 (.b false)] [] (q [f 2 v2,g l0,f 1 v3,g l0,a 1 l2 l0,g l0,u (.un .not l0),m l0,y 0 true (.fa v2 3),i 1 true l0,y 2 true (.fa v3 2),i 3 true l0,y 4 true (.ia l2 l0 1),i 5 true l0,y 6 true (.un .not l0),u (.pk l7 l0 (.b false)),x 4 l0] [] .ret)),res:=[(4,none)]}
def lG:Fn:= { aP:=0,vars:=[0],body:=(q [w 0 (.al [z0,z0,z0] [])] [] (q [u (.bd [z0,z0,z0] [(0,1,.i 2),(1,1,.i 3),(2,1,.i 4)]),u (.st v0 l0 3 [])] [] .ret)),res:=[(0,some (3,true))]}
def eT:Fn:= { aP:=2,vars:=[0,1,2,3,4],body:=(q [w 2 (.bx v0 2),w 3 (.bx v1 2),x 4 (.b false)] [] (q [f 0 v2,g l0,f 0 v3,g l0,u (.bin .lss l2 l0),m l0,y 0 false (.fa v2 0),i 1 false l0,y 2 false (.fa v3 0),i 3 false l0,y 4 false (.bin .eql l2 l0),e 5 false l0,y 0 true (.fa v2 1),i 1 true l0,y 2 true (.fa v3 1),i 3 true l0,y 4 true (.bin .lss l2 l0),y 11 false (.pk l5 l0 (.b false)),u (.pk (.l 12) (.b true) l0),x 4 l0] [] .ret)),res:=[(4,none)]}
end Go.Ev.K
namespace Go.Ev
class jL [Lib]:Prop where
 cI:Lib.fs N.ax=some K.ax
 kU:Lib.fs N.aF=some K.aF
 kV:Lib.fs N.cC=some K.cC
 yd:Lib.fs N.lG=some K.lG
 oI:Lib.fs N.eT=some K.eT
namespace K
variable [Lib] [jL]
theorem cI:Lib.fs N.ax=some K.ax:=jL.cI
theorem kU:Lib.fs N.aF=some K.aF:=jL.kU
theorem kV:Lib.fs N.cC=some K.cC:=jL.kV
theorem yd:Lib.fs N.lG=some K.lG:=jL.yd
theorem oI:Lib.fs N.eT=some K.eT:=jL.oI
end K
end Go.Ev
namespace Go.Ev
open Go
variable [Lib] [cu] [bM] [gu] [gk] [i7] [fK] [fI] [iv] [gj] [dq] [cT] [fT] [ff] [jA] [iY] [gC] [eC] [jL]
structure Esc where
 safe:List Int
 bad:List Int
 shut:List Int
 bj:Int
instance : Dat Esc := ⟨⟨[], [], [], 0⟩⟩
abbrev Esc.e(e:Esc):T:= .agg [tL e.safe,tL e.bad,tL e.shut,tI e.bj]
structure Esc.ok(m:aB)(e:Esc):Prop where
 s:lr e.safe m.aa.length=true
 b:lr e.bad m.aa.length=true
 h:lr e.shut m.roads.length=true
 l0:0≤e.bj
 l1:e.bj≤2147483648
theorem Esc.ok.sl{m:aB}{e:Esc}(hm:m.ok)(h:e.ok m):e.safe.length≤64:=by
 have:=i9 h.s;have:=hm.np;omega
theorem Esc.ok.bl{m:aB}{e:Esc}(hm:m.ok)(h:e.ok m):e.bad.length≤64:=by
 have:=i9 h.b;have:=hm.np;omega
theorem Esc.ok.hl{m:aB}{e:Esc}(hm:m.ok)(h:e.ok m):e.shut.length≤128:=by
 have:=i9 h.h;have:=hm.nr;omega
abbrev kI(m:aB)(k:Nat)(back:Bool):Int:=iN m k back 2 3 4
theorem W4{l s:Int}(l0:1≤l)(l1:l≤100000)(h:s=2∨s=3∨s=4):1≤(10*l+s-1).tdiv s∧(10*l+s-1).tdiv s≤500001:=by
 rcases h with rfl | rfl | rfl
 · rw[Int.tdiv_eq_ediv_of_nonneg (by omega)];omega
 · rw[Int.tdiv_eq_ediv_of_nonneg (by omega)];omega
 · rw[Int.tdiv_eq_ediv_of_nonneg (by omega)];omega
theorem lM{m:aB}(h:m.ok)(k:Nat)(hk:k<m.roads.length)(back:Bool):kI m k back= -1∨1≤kI m k back∧kI m k back≤500001:=by
 have l0:=(h.rs _ (ai hk)).l0
 have l1:=(h.rs _ (ai hk)).l1
 unfold kI iN
 simp only
 split
 · exact .inl rfl
 · refine .inr (W4 l0 l1 ?_)
   repeat' split
   all_goals first | exact .inl rfl | exact .inr (.inl rfl) | exact .inr (.inr rfl)
theorem UK:aD 0 N.lG [] []=some (.t (.agg [tI 2,tI 3,tI 4]),[]):=by
 refine ao K.yd rfl ?_
 simp(disch:=omega)only[go_sem,K.lG,↓reduceIte,reduceAdd,reduceSub]
theorem tO{m:aB}(h:m.ok)(k:Nat)(hk:k<m.roads.length)(back:Bool):aD 0 N.jz [.t m.e,I k,B back] []=some (I (kI m k back),[]):=by
 refine ao K.yc rfl ?_
 have hv:=iQ h
 have hw:=Qo h k hk back 2 3 4 (by omega) (by omega) (by omega) (by omega) (by omega) (by omega)
 have hs:=UK
 have nr:=h.nr
 obtain⟨aa,roads⟩:=m
 simp only at*
 simp(disch:=omega)only[go_sem,K.jz,↓reduceIte,hv,hw,hs,reduceAdd,reduceSub]
theorem BW{m:aB}(h:m.ok)(k:Nat)(hk:k<m.roads.length)(back:Bool):aD 0 N.fW [.t m.e,I k,B back] []=some (I (kI m k back),[]):=by
 refine ao K.vA rfl ?_
 have hw:=HC h k hk back 2 3 4 (by omega) (by omega) (by omega) (by omega) (by omega) (by omega)
 simp(disch:=omega)only[go_sem,K.fW,↓reduceIte,hw,reduceAdd,reduceSub]
theorem oa{m:aB}(hm:m.ok){e:Esc}(he:e.ok m):aD 0 N.fU [.t m.e,.t e.e] []=some (B true,[]):=by
 refine ao K.qw rfl ?_
 have hv:=iQ hm
 have r1:=mN e.safe 0 (m.aa.length-1) (by have:=he.sl hm;omega)
 have r2:=mN e.bad 0 (m.aa.length-1) (by have:=he.bl hm;omega)
 have r3:=mN e.shut 0 (m.roads.length-1) (by have:=he.hl hm;omega)
 rw[xU,he.s]at r1
 rw[xU,he.b]at r2
 rw[xU,he.h]at r3
 have r4:=Bq e.bj 0 2147483648
 have:=he.l0
 have:=he.l1
 have np:=hm.np
 have nr:=hm.nr
 rw[decide_eq_true (by omega)]at r4
 obtain⟨aa,roads⟩:=m
 obtain⟨safe,bad,shut,bj⟩:=e
 simp only at*
 simp(disch:=omega)only[go_sem,K.fU,↓reduceIte,hv,r1,r2,r3,r4,reduceAdd,reduceSub]
theorem Io{m:aB}(hm:m.ok){e:Esc}(he:e.ok m)(p:Nat)(hp:p<m.aa.length):aD 0 N.iK [.t m.e,.t e.e,I p] []=some (B true,[]):=by
 refine ao K.qy rfl ?_
 have hv:=oa hm he
 have r4:=Bq p 0 (m.aa.length-1)
 have np:=hm.np
 rw[decide_eq_true (by omega)]at r4
 obtain⟨aa,roads⟩:=m
 obtain⟨safe,bad,shut,bj⟩:=e
 simp only at*
 simp(disch:=omega)only[go_sem,K.iK,↓reduceIte,hv,r4,reduceAdd,reduceSub]
theorem tP{m:aB}(hm:m.ok){e:Esc}(he:e.ok m):aD 0 N.dR [.t m.e,.t e.e] []=some (B true,[]):=by
 refine ao K.o7 rfl ?_
 have hv:=nO hm
 have r1:=yX e.safe m.aa.length (by have:=he.sl hm;omega)
 have r2:=yX e.bad m.aa.length (by have:=he.bl hm;omega)
 have r3:=yX e.shut m.roads.length (by have:=he.hl hm;omega)
 rw[he.s]at r1
 rw[he.b]at r2
 rw[he.h]at r3
 have:=he.l0
 have:=he.l1
 have np:=hm.np
 have nr:=hm.nr
 obtain⟨aa,roads⟩:=m
 obtain⟨safe,bad,shut,bj⟩:=e
 simp only at*
 simp(disch:=omega)only[go_sem,K.dR,↓reduceIte,hv,r1,r2,r3,reduceAdd,reduceSub]
def sfF(m:aB)(e:Esc)(p:Nat):Bool:=(nth m.aa p).surf||decide ((p:Int)∈e.safe)
def bdF(e:Esc)(p:Nat):Bool:=decide ((p:Int)∈e.bad)
theorem tQ{m:aB}(hm:m.ok){e:Esc}(hl:e.safe.length≤1000)(p:Nat)(hp:p<m.aa.length):aD 0 N.fm [.t m.e,.t e.e,I p] []=some (B (sfF m e p),[]):=by
 refine ao K.vB rfl ?_
 have hh:=mI e.safe p (by omega)
 have np:=hm.np
 unfold sfF
 cases hx:(nth m.aa p).surf with
 | true=>simp(disch:=omega)only[go_sem,K.fm,↓reduceIte,hx,Bool.true_or,reduceAdd,reduceSub]
 | false=>
   simp(disch:=omega)only[go_sem,K.fm,↓reduceIte,hx,hh,Bool.false_or,reduceAdd,reduceSub]
def jB(m:aB)(r p:Nat):Int×Int:=
 if(nth m.roads r).frm=p then((nth m.roads r).to,kI m r false)
 else if(nth m.roads r).to=p then((nth m.roads r).frm,kI m r true)else(0, -1)
theorem vD{m:aB}(hm:m.ok)(r:Nat)(hr:r<m.roads.length)(p:Nat)(hp:p<m.aa.length):aD 0 N.eB [.t m.e,I r,I p] []=some (.tup [I (jB m r p).1,I (jB m r p).2],[]):=by
 refine ao K.tN rfl ?_
 have s1:=BW hm r hr false
 have s2:=BW hm r hr true
 have nr:=hm.nr
 have ex:(m.roads.map Road.e)[r]?=some (nth m.roads r).e:=b8 _ hr
 unfold jB
 generalize kI m r false=w1 at*
 generalize kI m r true=w2 at*
 generalize nth m.roads r=x at*
 obtain⟨frm,to,len,ar,walk,closed,rl,rh,ll,lh⟩:=x
 simp only at*
 by_cases c1:frm=p
 · simp(disch:=omega)only[go_sem,K.eB,↓reduceIte,ex,s1,s2,c1,reduceAdd,reduceSub]
 · by_cases c2:to=p
   · simp(disch:=omega)only[go_sem,K.eB,↓reduceIte,ex,s1,s2,c1,c2,reduceAdd,reduceSub]
   · simp(disch:=omega)only[go_sem,K.eB,↓reduceIte,ex,s1,s2,c1,c2,reduceAdd,reduceSub]
theorem NK(x y:Lab):aD 0 N.hU [.t (.agg [tI x.t,tI x.r]),.t (.agg [tI y.t,tI y.r])] []=some (B (oE x y),[]):=by
 refine ao K.ru rfl ?_
 obtain⟨a,b⟩:=x
 obtain⟨c,d⟩:=y
 unfold oE
 simp only
 by_cases c1:a<c<;>by_cases c2:a=c<;>by_cases c3:b<d
 all_goals simp(disch:=omega)only[go_sem,K.hU,↓reduceIte,c1,c2,c3,decide_true,decide_false,Bool.or_true,Bool.or_false,Bool.and_true,Bool.and_false,Bool.true_or,Bool.false_or,Bool.and_self,Bool.or_self,Int.lt_irrefl,reduceAdd,reduceSub]
theorem UL(x y:Lab):aD 0 N.eT [.t (.agg [tI x.t,tI x.r]),.t (.agg [tI y.t,tI y.r])] []=some (B (oE x y),[]):=by
 refine ao K.oI rfl ?_
 obtain⟨a,b⟩:=x
 obtain⟨c,d⟩:=y
 unfold oE
 simp only
 by_cases c1:a<c<;>by_cases c2:a=c<;>by_cases c3:b<d
 all_goals simp(disch:=omega)only[go_sem,K.eT,↓reduceIte,c1,c2,c3,decide_true,decide_false,Bool.or_true,Bool.or_false,Bool.and_true,Bool.and_false,Bool.true_or,Bool.false_or,Bool.and_self,Bool.or_self,Int.lt_irrefl,reduceAdd,reduceSub]
abbrev Edge.e(e:Edge):T:= .agg [tI e.r,tI e.a,tI e.b,tI e.t]
abbrev Lab.e(x:Lab):T:= .agg [tI x.t,tI x.r]
abbrev pq(E:List Edge)(ep:Nat):Obj:= .arr 4 false ep ((E.map Edge.e).map .t)
abbrev kW(l:List Bool):Obj:= .arr 1 false 0 ((l.map T.bool).map .t)
abbrev NL(L:List Lab):Obj:= .arr 2 false 0 ((L.map Lab.e).map .t)
abbrev DE(i:Nat)(E:List Edge)(ep n:Nat):List D:=[I n,.ref i ep E.length,.ref (i+1) 0 n,.ref (i+2) 0 n]
def uB(sf bd:List Bool)(e:Edge):Bool:= !(nth sf e.a)&& !(nth bd e.b)
theorem Ip(E:List Edge)(sf bd:List Bool)(ep n:Nat)(hs:sf.length=n)(hb:bd.length=n)(hn:n≤64)(e:Edge)(he:e.ok n):
 aD 0 N.cC [.agg (DE 0 E ep n),.t e.e] [pq E ep,kW sf,kW bd]=some (B (uB sf bd e),[pq E ep,kW sf,kW bd]):=by
 refine ao K.kV rfl ?_
 obtain⟨r,a,b,t⟩:=e
 obtain⟨h1,h2,h3,h4⟩:=he
 simp only at h1 h2 h3 h4
 unfold uB
 simp only
 cases hx:nth sf a<;>cases hy:nth bd b
 all_goals simp(disch:=omega)only[go_sem,K.cC,↓reduceIte,hx,hy,Bool.not_true,Bool.not_false,Bool.false_and,Bool.true_and,reduceAdd,reduceSub]
def rv(F:Int)(sf:List Bool)(n j:Nat):List Lab:=(List.range n).map fun p=>if decide (p<j)&& !(nth sf p)then⟨F,0⟩else⟨0,0⟩
theorem rZ(F:Int)(sf:List Bool)(n j:Nat):(rv F sf n j).length=n:=by simp[rv]
theorem oc(F:Int)(sf:List Bool)(n j:Nat){p:Nat}(hp:p<n):nth (rv F sf n j) p=if decide (p<j)&& !(nth sf p)then⟨F,0⟩else⟨0,0⟩:=by
 refine bC ?_
 unfold rv
 rw[aLn,aLp hp]
 rfl
theorem NM(F:Int)(sf:List Bool)(n:Nat):(rv F sf n 0).map Lab.e=List.replicate n (.agg [tI 0,tI 0]):=by
 unfold rv
 refine List.ext_getElem? fun i=>?_
 simp only[aLn,List.getElem?_replicate]
 by_cases hi:i<n
 · rw[aLp hi];simp[hi]
 · rw[aLm (by simpa using hi)];simp[hi]
theorem NN{F:Int}{sf:List Bool}{n j:Nat}(hj:j<n)(h:nth sf j=false):rv F sf n (j+1)=(rv F sf n j).set j ⟨F,0⟩:=by
 refine List.ext_getElem? fun i=>?_
 by_cases hi:i=j
 · subst hi
   rw[aLj (by rw[rZ];exact hj),cG (by rw[rZ];exact hj),oc F sf n _ hj]
   simp[h]
 · rw[aLi (by omega)]
   unfold rv
   rw[aLn,aLn]
   by_cases hn:i<n
   · rw[aLp hn]
     have:(decide (i<j+1))=decide (i<j):=decide_eq_decide.2 (by omega)
     simp only[aLw,this]
   · rw[aLm (by simpa using hn)];rfl
theorem NQ{F:Int}{sf:List Bool}{n j:Nat}(h:nth sf j=true):rv F sf n (j+1)=rv F sf n j:=by
 unfold rv
 refine List.map_congr_left fun p hp=>?_
 by_cases c:p=j
 · subst c;simp[h]
 · have:(decide (p<j+1))=decide (p<j):=by
    by_cases d:p<j
    · simp[d];omega
    · simp[d];omega
   rw[this]
theorem Kj(L:List Lab)(j:Nat)(a b:Int):(List.map D.t (List.map Lab.e L)).set j (D.t (T.agg [T.int .i64 a,T.int .i64 b]))=List.map D.t (List.map Lab.e (L.set j ⟨a,b⟩)):=by
 simp only[List.map_set]
abbrev km:Int:=1152921504606846976
theorem UM(E:List Edge)(sf bd:List Bool)(ep n:Nat)(hs:sf.length=n)(hb:bd.length=n)(hn:n≤64)(z0 z2 z4 z5 z6 z7 z10 z11 z12:D):
 exS aD K.oN ⟨[z0,.bp 3 0,z2,.ref 4 0 n,z4,z5,z6,z7,I n,I 0,z10,z11,z12],[pq E ep,kW sf,kW bd,.box (DE 0 E ep n),NL (rv km sf n 0)]⟩=
  some (.exit 0,⟨[.und,.bp 3 0,.und,.ref 4 0 n,.und,.und,.und,.und,I n,I n,.und,.und,.und],[pq E ep,kW sf,kW bd,.box (DE 0 E ep n),NL (rv km sf n n)]⟩):=by
 refine bk (fun j=>⟨[.und,.bp 3 0,.und,.ref 4 0 n,.und,.und,.und,.und,I n,I j,.und,.und,.und],[pq E ep,kW sf,kW bd,.box (DE 0 E ep n),NL (rv km sf n j)]⟩) n rfl ?_ ?_ (by simp)
 · intro j hj
   have ln:=rZ km sf n j
   have hx:=oc km sf n j hj
   rw[decide_eq_false (Nat.lt_irrefl j)]at hx
   simp only[Bool.false_and,aLt,↓reduceIte]at hx
   cases hc:nth sf j with
   | true=>
     rw[NQ hc]
     simp(disch:=omega)only[go_sem,K.iU,↓reduceIte,hc,Bool.not_true,reduceAdd,reduceSub]
   | false=>
     rw[NN hj hc]
     generalize rv km sf n j=L at*
     simp(disch:=omega)only[go_sem,K.iU,↓reduceIte,hc,hx,Bool.not_false,Kj,reduceAdd,reduceSub]
 · have ln:=rZ km sf n n
   simp(disch:=omega)only[go_sem,K.iU,↓reduceIte,reduceAdd,reduceSub]
theorem Rv(F:Int)(u:Edge→Bool)(E:List Edge)(L:List Lab)(c:Bool)(j:Nat):tC F u E L c (j+1)=(OI F u (tC F u E L c j).1 (nth E j),(tC F u E L c j).2||GH F u (tC F u E L c j).1 (nth E j)):=rfl
theorem UN(E:List Edge)(sf bd:List Bool)(ep n:Nat)(hs:sf.length=n)(hb:bd.length=n)(hn:n≤64)(hE:∀e∈E,e.ok n)(hl:E.length≤1000)(L:List Lab)(hL:DN km n L)(z0 z2 z4 z6 z7 z8 z9:D):
 exS aD K.oO ⟨[z0,.bp 3 0,z2,.ref 4 0 n,z4,B false,z6,z7,z8,z9,.ref 0 ep E.length,I E.length,I 0],[pq E ep,kW sf,kW bd,.box (DE 0 E ep n),NL L]⟩=
  some (.exit 4,⟨[.und,.bp 3 0,.und,.ref 4 0 n,.und,B (tC km (uB sf bd) E L false E.length).2,.und,.und,.und,.und,.ref 0 ep E.length,I E.length,I E.length],[pq E ep,kW sf,kW bd,.box (DE 0 E ep n),NL (tC km (uB sf bd) E L false E.length).1]⟩):=by
 refine bk (fun j=>⟨[.und,.bp 3 0,.und,.ref 4 0 n,.und,B (tC km (uB sf bd) E L false j).2,.und,.und,.und,.und,.ref 0 ep E.length,I E.length,I j],[pq E ep,kW sf,kW bd,.box (DE 0 E ep n),NL (tC km (uB sf bd) E L false j).1]⟩) E.length rfl ?_ ?_ (by simp)
 · intro j hj
   rw[Rv]
   have li:=(Bb hE hL (u:=uB sf bd) j (by omega)).1
   generalize (tC km (uB sf bd) E L false j).1=M at*
   generalize (tC km (uB sf bd) E L false j).2=c at*
   have he:=hE _ (ai hj)
   have us:=Ip E sf bd ep n hs hb hn _ he
   unfold OI GH q6
   generalize he':nth E j=e at*
   generalize uB sf bd e=ub at*
   obtain⟨er,a,b,t⟩:=e
   obtain⟨h1,h2,h3,h4⟩:=he
   simp only at h1 h2 h3 h4
   have ls:=UL ⟨(nth M b).t+t,(nth M b).r+1⟩ (nth M a)
   have q1:=li.t0 b h2
   have q2:=li.t1 b h2
   have q3:=li.r0 b h2
   have q4:=li.r1 b h2
   have ml:=li.l
   generalize hx:nth M a=x at*
   generalize hy:nth M b=y at*
   obtain⟨xt,xr⟩:=x
   obtain⟨yt,yr⟩:=y
   simp only at*
   generalize hlv:oE ⟨yt+t,yr+1⟩ ⟨xt,xr⟩=lv at*
   have e1:(M.map Lab.e)[a]?=some (Lab.e ⟨xt,xr⟩):=by rw[← hx];exact b8 _ (by omega)
   cases ub with
   | false=>
     simp(disch:=omega)only[go_sem,K.eI,↓reduceIte,us,ls,e1,hx,hy,he',Bool.false_and,Bool.or_false,reduceAdd,reduceSub]
   | true=>
     by_cases hf:yt<1152921504606846976
     · cases lv with
       | false=>
         simp(disch:=omega)only[go_sem,K.eI,↓reduceIte,us,ls,e1,hx,hy,he',hf,decide_true,Bool.and_false,Bool.true_and,Bool.or_false,reduceAdd,reduceSub]
       | true=>
         simp(disch:=omega)only[go_sem,K.eI,↓reduceIte,us,ls,e1,hx,hy,he',hf,decide_true,Bool.and_true,Bool.true_and,Bool.or_true,Kj,reduceAdd,reduceSub]
     · simp(disch:=omega)only[go_sem,K.eI,↓reduceIte,us,ls,e1,hx,hy,he',hf,decide_false,Bool.and_false,Bool.false_and,Bool.or_false,reduceAdd,reduceSub]
 · simp(disch:=omega)only[go_sem,K.eI,↓reduceIte,reduceAdd,reduceSub]
theorem Kk(F:Int)(hF:0≤F)(sf:List Bool)(n j:Nat):DN F n (rv F sf n j) where
 l:=rZ F sf n j
 t0:=fun p hp=>by rw[oc F sf n j hp];split<;>simp<;>omega
 t1:=fun p hp=>by rw[oc F sf n j hp];split<;>simp<;>omega
 r0:=fun p hp=>by rw[oc F sf n j hp];split<;>simp
 r1:=fun p hp=>by rw[oc F sf n j hp];split<;>simp<;>omega
def iV(E:List Edge)(sf bd:List Bool)(n:Nat):List Lab:=L5 km (uB sf bd) E (rv km sf n n)
theorem UO(E:List Edge)(sf bd:List Bool)(ep n:Nat)(hs:sf.length=n)(hb:bd.length=n)(hn:n≤64)(hE:∀e∈E,e.ok n)(hl:E.length≤1000)(z0 z2 z4 z6 z7 z8 z9 z10 z11 z12:D):
 exS aD K.oP ⟨[z0,.bp 3 0,z2,.ref 4 0 n,z4,B true,z6,z7,z8,z9,z10,z11,z12],[pq E ep,kW sf,kW bd,.box (DE 0 E ep n),NL (rv km sf n n)]⟩=
  some (.exit 2,⟨[.und,.bp 3 0,.und,.ref 4 0 n,.und,B false,.und,.und,.und,.und,.und,.und,.und],[pq E ep,kW sf,kW bd,.box (DE 0 E ep n),NL (iV E sf bd n)]⟩):=by
 refine(Ag (fun L c=>⟨[.und,.bp 3 0,.und,.ref 4 0 n,.und,B c,.und,.und,.und,.und,.und,.und,.und],[pq E ep,kW sf,kW bd,.box (DE 0 E ep n),NL L]⟩)
  (fun L=>(.exit 2,⟨[.und,.bp 3 0,.und,.ref 4 0 n,.und,B false,.und,.und,.und,.und,.und,.und,.und],[pq E ep,kW sf,kW bd,.box (DE 0 E ep n),NL L]⟩))
  (fun L=>tC km (uB sf bd) E L false E.length) (DN km n) (SX km) ?_ ?_ ?_ _ (Kk km (by decide) sf n n) rfl).1
 · intro L hL
   have h:=Bb hE hL (u:=uB sf bd) E.length (aLs _)
   exact⟨h.1,h.2.2.1⟩
 · intro L hL
   have l3:=UN E sf bd ep n hs hb hn hE hl L hL
   have ln:=hL.l
   simp(disch:=omega)only[go_sem,K.kz,↓reduceIte,l3,reduceAdd,reduceSub]
 · intro L hL
   refine⟨?_,by simp⟩
   simp(disch:=omega)only[go_sem,K.kz,↓reduceIte,reduceAdd,reduceSub]
theorem Rw(E:List Edge)(sf bd:List Bool)(n:Nat)(hE:∀e∈E,e.ok n):(iV E sf bd n).length=n:=by
 unfold iV L5
 exact(EJ (DN km n) (fun l h=>(Bb hE h (u:=uB sf bd) E.length (aLs _)).1) _ _ (Kk km (by decide) sf n n)).l
theorem UP(E:List Edge)(sf bd:List Bool)(ep n:Nat)(hs:sf.length=n)(hb:bd.length=n)(hn:n≤64)(hE:∀e∈E,e.ok n)(hl:E.length≤1000):
 aD 0 N.dm [.agg (DE 0 E ep n)] [pq E ep,kW sf,kW bd]=some (.t (.sl ((iV E sf bd n).map Lab.e)),[pq E ep,kW sf,kW bd]):=by
 refine ao K.lY rfl ?_
 have l1:=UM E sf bd ep n hs hb hn
 have l2:=UO E sf bd ep n hs hb hn hE hl
 have ln:=Rw E sf bd n hE
 have l0:=rZ km sf n n
 generalize iV E sf bd n=r at*
 have z:=NM km sf n
 have z2:List.replicate n (D.t (T.agg [tI 0,tI 0]))=((rv km sf n 0).map Lab.e).map D.t:=by rw[z,List.map_replicate]
 simp(disch:=omega)only[go_sem,K.dm,↓reduceIte,l1,l2,z2,reduceAdd,reduceSub]
theorem Mb(E:List Edge)(sf bd:List Bool)(ep n:Nat)(hs:sf.length=n)(hb:bd.length=n)(hn:n≤64)(L:List Lab)(hL:DN km n L)(p:Nat)(hp:p<n)(e:Edge)(he:e.ok n):
 aD 0 N.aF [.t e.e,.bp 0 0,.bp 1 0,.bp 2 0] [.box [I p],.box (DE 3 E ep n),.box [.t (.sl (L.map Lab.e))],pq E ep,kW sf,kW bd]=
  some (B (vn (uB sf bd) L p e),[.box [I p],.box (DE 3 E ep n),.box [.t (.sl (L.map Lab.e))],pq E ep,kW sf,kW bd]):=by
 refine ao K.kU rfl ?_
 have us:=Ip E sf bd ep n hs hb hn e he
 unfold vn
 obtain⟨r,a,b,t⟩:=e
 obtain⟨h1,h2,h3,h4⟩:=he
 simp only at h1 h2 h3 h4
 simp only at*
 generalize uB sf bd ⟨r,a,b,t⟩=ub at*
 have ml:=hL.l
 have q1:=hL.t0 b h2
 have q2:=hL.t1 b h2
 have q3:=hL.r0 b h2
 have q4:=hL.r1 b h2
 have w1:=hL.t0 p hp
 have w2:=hL.t1 p hp
 have w3:=hL.r0 p hp
 have w4:=hL.r1 p hp
 have e1:(L.map Lab.e)[b]?=some (nth L b).e:=b8 _ (by omega)
 have e2:(L.map Lab.e)[p]?=some (nth L p).e:=b8 _ (by omega)
 generalize nth L b=x at*
 generalize nth L p=y at*
 obtain⟨xt,xr⟩:=x
 obtain⟨yt,yr⟩:=y
 simp only[Lab.mk.injEq]at*
 have fc:km=1152921504606846976:=rfl
 have v1:IntKind.i64.wrap (yt-t)=yt-t:=xD (by omega) (by omega)
 have v2:IntKind.i64.wrap (yr-1)=yr-1:=xD (by omega) (by omega)
 by_cases c1:a=p
 · subst c1
   cases ub with
   | false=>simp(disch:=omega)only[go_sem,K.aF,↓reduceIte,us,Bool.and_false,Bool.false_and,decide_true,Bool.true_and,reduceAdd,reduceSub]
   | true=>
     by_cases c2:xt=yt-t<;>by_cases c3:xr=yr-1
     all_goals simp(disch:=omega)only[go_sem,K.aF,↓reduceIte,us,e1,e2,v1,v2,c2,c3,decide_true,Bool.and_self,decide_false,Bool.and_false,Bool.true_and,and_self,and_true,and_false,reduceAdd,reduceSub]
 · simp(disch:=omega)only[go_sem,K.aF,↓reduceIte,us,c1,decide_false,Bool.false_and,reduceAdd,reduceSub]
theorem NS(E:List Edge)(sf bd:List Bool)(ep n:Nat)(hs:sf.length=n)(hb:bd.length=n)(hn:n≤64)(hE:∀e∈E,e.ok n)(hl:E.length≤1000)(L:List Lab)(hL:DN km n L)(p:Nat)(hp:p<n):
 aD 0 N.ax [.ref 0 ep E.length,.fn N.aF [.bp 1 0,.bp 2 0,.bp 3 0]] [pq E ep,.box [I p],.box [I n,.ref 0 ep E.length,.ref 4 0 n,.ref 5 0 n],.box [.t (.sl (L.map Lab.e))],kW sf,kW bd]=
  some (I (match (List.range E.length).find? (fun j=>vn (uB sf bd) L p (nth E j))with | some j=>(j:Int) | none=> -1),[pq E ep,.box [I p],.box [I n,.ref 0 ep E.length,.ref 4 0 n,.ref 5 0 n],.box [.t (.sl (L.map Lab.e))],kW sf,kW bd]):=by
 refine ao K.cI rfl ?_
 have loop:∀z2 z3:D,exS aD K.dE ⟨[.ref 0 ep E.length,.fn N.aF [.bp 1 0,.bp 2 0,.bp 3 0],z2,z3,I E.length,I 0],[pq E ep,.box [I p],.box [I n,.ref 0 ep E.length,.ref 4 0 n,.ref 5 0 n],.box [.t (.sl (L.map Lab.e))],kW sf,kW bd]⟩=
  some (match (List.range E.length).find? (fun j=>vn (uB sf bd) L p (nth E j))with
   | some j=>(.ret,⟨[.ref 0 ep E.length,.fn N.aF [.bp 1 0,.bp 2 0,.bp 3 0],I j,I j,I E.length,I j],[pq E ep,.box [I p],.box [I n,.ref 0 ep E.length,.ref 4 0 n,.ref 5 0 n],.box [.t (.sl (L.map Lab.e))],kW sf,kW bd]⟩)
   | none=>(.exit 0,⟨[.ref 0 ep E.length,.fn N.aF [.bp 1 0,.bp 2 0,.bp 3 0],.und,.und,I E.length,I E.length],[pq E ep,.box [I p],.box [I n,.ref 0 ep E.length,.ref 4 0 n,.ref 5 0 n],.box [.t (.sl (L.map Lab.e))],kW sf,kW bd]⟩)):=by
  intro z2 z3
  refine cH (fun j=>⟨[.ref 0 ep E.length,.fn N.aF [.bp 1 0,.bp 2 0,.bp 3 0],.und,.und,I E.length,I j],[pq E ep,.box [I p],.box [I n,.ref 0 ep E.length,.ref 4 0 n,.ref 5 0 n],.box [.t (.sl (L.map Lab.e))],kW sf,kW bd]⟩) E.length (fun j=>vn (uB sf bd) L p (nth E j)) _ _ rfl ?_ ?_ ?_ (by simp)
  · intro j hj hp'
    have b1:=Mb E sf bd ep n hs hb hn L hL p hp _ (hE _ (ai hj))
    rw[hp']at b1
    simp(disch:=omega)only[go_sem,K.aU,↓reduceIte,b1,reduceAdd,reduceSub]
  · intro j hj hp'
    have b1:=Mb E sf bd ep n hs hb hn L hL p hp _ (hE _ (ai hj))
    rw[hp']at b1
    refine⟨?_,by simp⟩
    simp(disch:=omega)only[go_sem,K.aU,↓reduceIte,b1,reduceAdd,reduceSub]
  · simp(disch:=omega)only[go_sem,K.aU,↓reduceIte,reduceAdd,reduceSub]
 cases hf:(List.range E.length).find? (fun j=>vn (uB sf bd) L p (nth E j))with
 | some j=>
   rw[hf]at loop
   simp(disch:=omega)only[go_sem,K.ax,↓reduceIte,loop,reduceAdd,reduceSub]
 | none=>
   rw[hf]at loop
   simp(disch:=omega)only[go_sem,K.ax,↓reduceIte,loop,reduceAdd,reduceSub]
def ah0(u:Edge→Bool)(E:List Edge)(L:List Lab)(p:Nat):Int:=match (List.range E.length).find? (fun j=>vn u L p (nth E j))with | some j=>(j:Int) | none=> -1
theorem vE:∀ {i j:Nat},i≠j→eqB i j=false
 | 0,0,h=>absurd rfl h
 | 0,_+1,_=>rfl
 | _+1,0,_=>rfl
 | i+1,j+1,h=>vE (i:=i) (j:=j) (by omega)
theorem UQ(E:List Edge)(sf bd:List Bool)(ep n:Nat)(hs:sf.length=n)(hb:bd.length=n)(hn:n≤64)(hE:∀e∈E,e.ok n)(hl:E.length≤1000)(L:List Lab)(hL:DN km n L)(p:Nat)(hp:p<n)
 (H:aq) (i:Nat) (h0:H[0]?=some (pq E ep)) (h1:H[1]?=some (kW sf)) (h2:H[2]?=some (kW bd)) (h3:H[3]?=some (.box (DE 0 E ep n))) (h6:H[6]?=some (.box [.t (.sl (L.map Lab.e))])) (hi:H[i]?=some (.box [I p])) (i6:7≤i):
 Lg H aD N.ax 0 [0] [.ref 0 ep E.length,.fn N.aF [.bp i 0,.bp 3 0,.bp 6 0]]=some (I (ah0 (uB sf bd) E L p),H):=by
 have ix:=NS E sf bd ep n hs hb hn hE hl L hL p hp
 have a0:eqB i 0=false:=vE (by omega)
 have b0:eqB 0 i=false:=vE (by omega)
 have a1:eqB i 1=false:=vE (by omega)
 have b1:eqB 1 i=false:=vE (by omega)
 have a2:eqB i 2=false:=vE (by omega)
 have b2:eqB 2 i=false:=vE (by omega)
 have a3:eqB i 3=false:=vE (by omega)
 have b3:eqB 3 i=false:=vE (by omega)
 have a6:eqB i 6=false:=vE (by omega)
 have b6:eqB 6 i=false:=vE (by omega)
 have sel:reach H 3 (fp [] (CE 8 [.ref 0 ep E.length,.fn N.aF [.bp i 0,.bp 3 0,.bp 6 0]]))=[0,i,3,6,1,2]:=by
  have s0:fp [] (CE 8 [.ref 0 ep E.length,.fn N.aF [.bp i 0,.bp 3 0,.bp 6 0]])=[0,i,3,6]:=by
   simp(disch:=omega)only[go_sem,a0,a1,a2,a3,a6,b0,b1,b2,b3,b6]
  have s1:fp [0,i,3,6] (lN H [0,i,3,6])=[0,i,3,6,1,2]:=by
   have:lN H [0,i,3,6]=[0,1,2]:=by
    simp only[lN,List.flatMap_cons,List.flatMap_nil,h0,h3,h6,hi]
    rw[show List.flatMap (ids depth) (pq E ep).ds=[]from CF 8 _]
    rfl
   rw[this]
   simp(disch:=omega)only[go_sem,a0,a1,a2,a3,a6,b0,b1,b2,b3,b6]
  have s2:fp [0,i,3,6,1,2] (lN H [0,i,3,6,1,2])=[0,i,3,6,1,2]:=by
   have:lN H [0,i,3,6,1,2]=[0,1,2]:=by
    simp only[lN,List.flatMap_cons,List.flatMap_nil,h0,h1,h2,h3,h6,hi]
    rw[show List.flatMap (ids depth) (pq E ep).ds=[]from CF 8 _,show List.flatMap (ids depth) (kW sf).ds=[]from CF 8 _,show List.flatMap (ids depth) (kW bd).ds=[]from CF 8 _]
    rfl
   rw[this]
   simp(disch:=omega)only[go_sem,a0,a1,a2,a3,a6,b0,b1,b2,b3,b6]
  simp only[s0,reach,s1,s2]
 have pk:pick H [0,i,3,6,1,2]=some [pq E ep,.box [I p],.box (DE 0 E ep n),.box [.t (.sl (L.map Lab.e))],kW sf,kW bd]:=by
  simp only[pick,h0,h1,h2,h3,h6,hi,aLq,aLw]
 have ar:rC H [0] 0 [.ref 0 ep E.length,.fn N.aF [.bp i 0,.bp 3 0,.bp 6 0]]=some [.ref 0 ep E.length,.fn N.aF [.bp i 0,.bp 3 0,.bp 6 0]]:=by
  simp(disch:=omega)only[go_sem]
 have fz:du H [0] 0 [.ref 0 ep E.length,.fn N.aF [.bp i 0,.bp 3 0,.bp 6 0]]=[]:=by
  simp(disch:=omega)only[go_sem]
 have rn:cD (ren (idxOf [0,i,3,6,1,2]) 8) [.ref 0 ep E.length,.fn N.aF [.bp i 0,.bp 3 0,.bp 6 0]]=some [.ref 0 ep E.length,.fn N.aF [.bp 1 0,.bp 2 0,.bp 3 0]]:=by
  simp(disch:=omega)only[go_sem,a0,a1,a2,a3,a6,b0,b1,b2,b3,b6]
 rw[Li,Lj,ar,aLq,Lk,sel,Ll,rn,aLq,fz,Lm]
 simp only[pins]
 rw[pk,aLq,Ln]
 simp(disch:=omega)only[go_sem,a0,a1,a2,a3,a6,b0,b1,b2,b3,b6,reduceAdd,ix]
 rw[qi h0,qi hi,qi h3,qi h6,qi h1,qi h2]
 rfl
abbrev DO(E:List Edge)(sf bd:List Bool)(ep n:Nat)(L:List Lab)(W M:List Int)(Tl:aq)(p:Nat):aq:=
 pq E ep::kW sf::kW bd:: .box (DE 0 E ep n)::kF W::kF []:: .box [.t (.sl (L.map Lab.e))]::kF M::(Tl++[.box [I p]])
abbrev Kl(p0:Nat)(W M:List Int)(Tl:aq):List D:=[.und,I p0,.bp 3 0,.ref 4 0 W.length,.und,.ref 7 0 M.length,.und,.bp 6 0,.bp (Tl.length+8) 0,.und,.und]
theorem NT(E:List Edge)(sf bd:List Bool)(ep n:Nat)(hs:sf.length=n)(hb:bd.length=n)(hn:n≤64)(hE:∀e∈E,e.ok n)(hl:E.length≤1000)(L:List Lab)(hL:DN km n L)
 (p0 p:Nat) (hp:p<n) (W M:List Int) (hW:W.length≤1000000000) (hM:M.length≤1000000000) (Tl:aq) (hc:nth sf p=false) (j:Nat) (hj:j<E.length) (hx:ah0 (uB sf bd) E L p=(j:Int)):
 gE false [0,4,6,9,10] (DO E sf bd ep n L W M Tl p).length (exS aD K.fo ⟨Kl p0 W M Tl,DO E sf bd ep n L W M Tl p⟩)=some ⟨Kl p0 (W++[((nth E j).r:Int)]) (M++[((nth E j).b:Int)]) (Tl++[.box [I (nth E j).b]]),DO E sf bd ep n L (W++[((nth E j).r:Int)]) (M++[((nth E j).b:Int)]) (Tl++[.box [I (nth E j).b]]) (nth E j).b⟩:=by
 have oi:=UQ E sf bd ep n hs hb hn hE hl L hL p hp (DO E sf bd ep n L W M Tl p) (Tl.length+8) rfl rfl rfl rfl rfl (by simp) (by omega)
 rw[hx]at oi
 have hG:∀x:Obj,(Tl++[x])[Tl.length]?=some x:=fun x=>by simp
 have hS:∀x y:Obj,(Tl++[x]).set Tl.length y=Tl++[y]:=fun x y=>by simp
 obtain⟨e1,e2,e3,e4⟩:=hE _ (ai hj)
 generalize hy:nth E j=y at*
 obtain⟨r,a,b,t⟩:=y
 simp only at*
 have hG2:∀x y:Obj,(Tl++[x]++[y])[Tl.length+1]?=some y:=fun x y=>by simp
 have hS2:∀x y z:Obj,(Tl++[x]++[y]).set (Tl.length+1) z=Tl++[x]++[z]:=fun x y z=>by simp
 simp(disch:=omega)only[go_sem,K.fo,↓reduceIte,reduceAdd,reduceSub,hG,hS,hG2,hS2,hc,oi,hy,Bool.not_false]
 simp only[List.map_append,List.map_cons,List.map_nil,aLv,List.length_cons,List.length_nil,Nat.add_assoc,reduceAdd,Int.natCast_add]
 simp only[Kl,DO,kF,List.map_append,List.map_cons,List.map_nil,aLv,List.length_cons,List.length_nil,Nat.add_assoc,reduceAdd]
theorem NU(l:List Edge):(List.range l.length).map (nth l)=l:=by
 refine List.ext_getElem? fun i=>?_
 rw[aLn]
 by_cases hi:i<l.length
 · rw[aLp hi,cG hi];rfl
 · rw[aLm (by simpa using hi),aLm (by omega)];rfl
theorem Rx{u:Edge→Bool}{E:List Edge}{L:List Lab}{p:Nat}{e:Edge}(h:Ij u E L p=some e):∃j:Nat,ah0 u E L p=(j:Int)∧j<E.length∧nth E j=e:=by
 unfold Ij at h
 rw[← NU E,List.find?_map]at h
 unfold ah0
 cases hf:(List.range E.length).find? (fun j=>vn u L p (nth E j))with
 | none=>
   have:(List.range E.length).find? (vn u L p ∘ nth E)=none:=hf
   rw[this]at h
   cases h
 | some j=>
   have:(List.range E.length).find? (vn u L p ∘ nth E)=some j:=hf
   rw[this]at h
   simp only[aLw,Option.some.injEq]at h
   exact⟨j,rfl,aLu.1 (List.mem_of_find?_eq_some hf),h⟩
abbrev rz(sf:List Bool)(p:Nat):Bool:=nth sf p
theorem Ry(E:List Edge)(sf bd:List Bool)(ep n:Nat)(hs:sf.length=n)(hb:bd.length=n)(hn:n≤64)(hE:∀e∈E,e.ok n)(hl:E.length≤1000)(L:List Lab)(hZ:L4 km n E (uB sf bd) (rz sf) L)
 (p0:Nat):∀(k p:Nat) (W M:List Int) (Tl:aq),p<n→(nth L p).t<km→(nth L p).r.toNat≤k→W.length+k≤1000000000→M.length+k≤1000000000→
 ∃(Tl':aq) (q:Nat),nW false [0,4,6,9,10] (exS aD K.fo) ⟨Kl p0 W M Tl,DO E sf bd ep n L W M Tl p⟩=
  some (.exit 0,⟨Kl p0 (W++(mu (rz sf) (uB sf bd) E L k p).map (fun e=>(e.r:Int))) (M++(mu (rz sf) (uB sf bd) E L k p).map (fun e=>(e.b:Int))) Tl',
   DO E sf bd ep n L (W++(mu (rz sf) (uB sf bd) E L k p).map (fun e=>(e.r:Int))) (M++(mu (rz sf) (uB sf bd) E L k p).map (fun e=>(e.b:Int))) Tl' q⟩):=by
 have done:∀(p:Nat) (W M:List Int) (Tl:aq),p<n→nth sf p=true→nW false [0,4,6,9,10] (exS aD K.fo) ⟨Kl p0 W M Tl,DO E sf bd ep n L W M Tl p⟩=some (.exit 0,⟨Kl p0 W M Tl,DO E sf bd ep n L W M Tl p⟩):=by
  intro p W M Tl hp hz
  refine eD ?_ (by simp)
  have hG:∀x:Obj,(Tl++[x])[Tl.length]?=some x:=fun x=>by simp
  have hS:∀x y:Obj,(Tl++[x]).set Tl.length y=Tl++[y]:=fun x y=>by simp
  simp(disch:=omega)only[go_sem,K.fo,↓reduceIte,reduceAdd,reduceSub,hG,hS,hz,Bool.not_true]
 intro k
 induction k with
 | zero=>
   intro p W M Tl hp hf hk hW hM
   have hz:nth sf p=true:=by
    by_cases hz:nth sf p=true
    · exact hz
    · obtain⟨e,_,e1,_,_,_,_,e5⟩:=pn hZ hE hp hf (by simpa using hz)
      have:=hZ.r0 e.b (hE e e1).2.1
      have:=hZ.r0 p hp
      omega
   refine⟨Tl,p,?_⟩
   simp only[mu,List.map_nil,List.append_nil]
   exact done p W M Tl hp hz
 | succ k ih=>
   intro p W M Tl hp hf hk hW hM
   by_cases hz:nth sf p=true
   · refine⟨Tl,p,?_⟩
     have:mu (rz sf) (uB sf bd) E L (k+1) p=[]:=by unfold mu;rw[if_pos hz]
     rw[this]
     simp only[List.map_nil,List.append_nil]
     exact done p W M Tl hp hz
   · obtain⟨e,e0,e1,e2,e3,e4,e5,e6⟩:=pn hZ hE hp hf (by simpa using hz)
     have br:=hZ.r0 e.b (hE e e1).2.1
     obtain⟨j,j0,j1,j2⟩:=Rx e0
     have rd:=NT E sf bd ep n hs hb hn hE hl L hZ.toDN p0 p hp W M (by omega) (by omega) Tl (by simpa using hz) j j1 j0
     rw[j2]at rd
     obtain⟨Tl',q,h⟩:=ih e.b (W++[(e.r:Int)]) (M++[(e.b:Int)]) (Tl++[.box [I e.b]]) (hE e e1).2.1 e4 (by omega) (by simp;omega) (by simp;omega)
     refine⟨Tl',q,?_⟩
     have:mu (rz sf) (uB sf bd) E L (k+1) p=e::mu (rz sf) (uB sf bd) E L k e.b:=by
      conv=>lhs;unfold mu
      rw[if_neg hz,e0]
     simpa only[this,List.map_cons,List.append_assoc,List.cons_append,List.nil_append]using fL rd h
theorem aax{F:Int}(hF:0≤F)(E:List Edge)(u:Edge→Bool)(sf:List Bool)(n:Nat):WS F n E u (rz sf) (rv F sf n n):=by
 refine⟨Kk F hF sf n n,?_,?_⟩
 · intro p hp hz
   rw[oc F sf n n hp]
   have:nth sf p=true:=hz
   rw[this,Bool.not_true,Bool.and_false]
   rfl
 · intro p hp hf
   left
   rw[oc F sf n n hp]at hf
   show nth sf p=true
   cases hz:nth sf p with
   | true=>rfl
   | false=>
     rw[hz,decide_eq_true hp]at hf
     simp at hf
theorem Az{E:List Edge}{sf bd:List Bool}{n:Nat}(hE:∀e∈E,e.ok n):L4 km n E (uB sf bd) (rz sf) (iV E sf bd n):=by
 refine L6 hE ?_ (aax (by decide) E _ sf n)
 intro e _ hu
 unfold uB at hu
 simp only[aLr,Bool.not_eq_true']at hu
 exact hu.1
def aay(E:List Edge)(sf bd:List Bool)(n p:Nat):List Edge:=mu (rz sf) (uB sf bd) E (iV E sf bd n) (nth (iV E sf bd n) p).r.toNat p
def UR(E:List Edge)(sf bd:List Bool)(n p:Nat):D:=
 if(nth (iV E sf bd n) p).t<km then .tup [.t (tL ((aay E sf bd n p).map fun e=>(e.r:Int))),I (nth (iV E sf bd n) p).t,.t (tL ((p:Int)::(aay E sf bd n p).map fun e=>(e.b:Int))),B true]
 else .tup [.t (tL []),I 0,.t (tL []),B false]
theorem tR{E:List Edge}{sf bd:List Bool}{n:Nat}(hE:∀e∈E,e.ok n)(hn:n≤64){p:Nat}(hp:p<n)(hf:(nth (iV E sf bd n) p).t<km):0≤(nth (iV E sf bd n) p).t∧(nth (iV E sf bd n) p).t≤64000000∧0≤(nth (iV E sf bd n) p).r∧(nth (iV E sf bd n) p).r≤64000000:=by
 have h:=Az (sf:=sf) (bd:=bd) hE
 have h1:=h.time hE hp hf
 have h2:=h.t0 p hp
 have h3:=h.r0 p hp
 have h4:=h.r1 p hp
 omega
theorem iz{l:Nat}{L:C}{S:St}{p:Ex×St}{K:St→Option (Ex×St)}{E:Ex×St→Option (D×aq)}{R:Option (D×aq)}(h:exS aD L S=some p)(h2:(andThen (Fj l (some p)) K).bind E=R):(andThen (Fj l (exS aD L S)) K).bind E=R:=by
 rw[h];exact h2
theorem Rz(E:List Edge)(sf bd:List Bool)(ep n:Nat)(hs:sf.length=n)(hb:bd.length=n)(hn:n≤64)(hE:∀e∈E,e.ok n)(hl:E.length≤1000)(p:Nat)(hp:p<n):
 aD 0 N.cj [.agg (DE 0 E ep n),I p] [pq E ep,kW sf,kW bd]=some (UR E sf bd n p,[pq E ep,kW sf,kW bd]):=by
 refine ao K.m7 rfl ?_
 have co:=UP E sf bd ep n hs hb hn hE hl
 have cz:=Az (sf:=sf) (bd:=bd) hE
 have cl:=tR (sf:=sf) (bd:=bd) hE hn hp
 have ln:=cz.l
 unfold UR aay
 generalize iV E sf bd n=L at*
 have e1:(L.map Lab.e)[p]?=some (nth L p).e:=b8 _ (by omega)
 by_cases hf:(nth L p).t<km
 · obtain⟨c1,c2,c3,c4⟩:=cl hf
   obtain⟨Tl,q,lp⟩:=Ry E sf bd ep n hs hb hn hE hl L cz p (nth L p).r.toNat p [] [(p:Int)] [] hp hf (aLs _) (by simp;omega) (by simp;omega)
   have lp2:∀z0 z4 z6 z9 z10,exS aD K.p5 ⟨[z0,I p,.bp 3 0,.ref 4 0 0,z4,.ref 7 0 1,z6,.bp 6 0,.bp 8 0,z9,z10],DO E sf bd ep n L [] [(p:Int)] [] p⟩=_:=fun z0 z4 z6 z9 z10=>uT lp
   rw[if_pos hf]
   generalize (mu (rz sf) (uB sf bd) E L (nth L p).r.toNat p)=P at*
   generalize nth L p=x at*
   obtain⟨xt,xr⟩:=x
   simp only at*
   have hf:xt<1152921504606846976:=hf
   simp(disch:=omega)only[go_sem,K.cj,↓reduceIte,co,e1,hf,reduceAdd,reduceSub]
   refine iz (lp2 _ _ _ _ _) ?_
   simp(disch:=omega)only[go_sem,K.cj,↓reduceIte,e1,List.nil_append,List.singleton_append,reduceAdd,reduceSub]
   rfl
 · rw[if_neg hf]
   have:=cz.t1 p hp
   generalize nth L p=x at*
   obtain⟨xt,xr⟩:=x
   simp only at*
   have hf:¬xt<1152921504606846976:=hf
   simp(disch:=omega)only[go_sem,K.cj,↓reduceIte,co,e1,hf,reduceAdd,reduceSub]
   simp only[tL,List.map_nil]
def xl(l:List Bool)(xs:List Int):Nat→List Bool
 | 0=>l
 | j+1=>(xl l xs j).set (nth xs j).toNat true
theorem kJ(l:List Bool)(xs:List Int):∀j,(xl l xs j).length=l.length
 | 0=>rfl
 | j+1=>by simp only[xl,List.length_set];exact kJ l xs j
theorem Km{L:List Bool}{i j:Nat}{a:Bool}(h:j≠i):nth (L.set j a) i=nth L i:=by
 unfold nth
 simp only[aLl,aLi h]
theorem BX(l:List Bool)(xs:List Int)(p:Nat)(hp:p<l.length)(h0:∀x∈xs,0≤x):∀j,j≤xs.length→nth (xl l xs j) p=(nth l p||decide ((p:Int)∈xs.take j))
 | 0,_=>by simp[xl]
 | j+1,hj=>by
   have ih:=BX l xs p hp h0 j (by omega)
   have hx:0≤nth xs j:=h0 _ (ai (by omega))
   have tk:xs.take (j+1)=xs.take j++[nth xs j]:=by
    rw[List.take_succ,cG (by omega)];rfl
   simp only[xl]
   by_cases c:(nth xs j).toNat=p
   · have:nth ((xl l xs j).set (nth xs j).toNat true) p=true:=by
      rw[c];exact bC (aLj (by rw[kJ];exact hp))
     have m:(p:Int)∈xs.take (j+1):=by
      rw[tk,List.mem_append,List.mem_singleton];right;omega
     rw[this,decide_eq_true m,Bool.or_true]
   · rw[Km c,ih]
     have:((p:Int)∈xs.take (j+1))=((p:Int)∈xs.take j):=by
      rw[tk,List.mem_append,List.mem_singleton]
      exact propext ⟨fun h=>h.elim id (fun h=>absurd (by omega) c),.inl⟩
     simp only[this]
def Df(m:aB):List Bool:=m.aa.map Place.surf
def sfL(m:aB)(e:Esc):List Bool:=xl (Df m) e.safe e.safe.length
def bdL(m:aB)(e:Esc):List Bool:=xl (List.replicate m.aa.length false) e.bad e.bad.length
theorem Kn(m:aB)(e:Esc):(sfL m e).length=m.aa.length:=by unfold sfL;rw[kJ];simp[Df]
theorem AA(m:aB)(e:Esc):(bdL m e).length=m.aa.length:=by unfold bdL;rw[kJ];simp
theorem p7{m:aB}{e:Esc}(he:e.ok m){p:Nat}(hp:p<m.aa.length):nth (sfL m e) p=sfF m e p:=by
 unfold sfL sfF
 rw[BX _ _ p (by simpa [Df]using hp) (fun x hx=>(qv he.s x hx).1) _ (aLs _),List.take_length]
 congr 1
 unfold Df
 exact bC (by rw[aLn,cG hp];rfl)
theorem ye{m:aB}{e:Esc}(he:e.ok m){p:Nat}(hp:p<m.aa.length):nth (bdL m e) p=bdF e p:=by
 unfold bdL bdF
 rw[BX _ _ p (by simpa using hp) (fun x hx=>(qv he.b x hx).1) _ (aLs _),List.take_length]
 have:nth (List.replicate m.aa.length false) p=false:=bC (by rw[List.getElem?_replicate,if_pos hp])
 rw[this,Bool.false_or]
def AB(m:aB)(e:Esc)(k:Nat):List Edge:=
 if(k:Int)∈e.shut then []else
  (if 0≤kI m k false then [⟨k,(nth m.roads k).frm.toNat,(nth m.roads k).to.toNat,kI m k false⟩]else [])++
  (if 0≤kI m k true then [⟨k,(nth m.roads k).to.toNat,(nth m.roads k).frm.toNat,kI m k true⟩]else [])
def m8(m:aB)(e:Esc):Nat→List Edge
 | 0=>[]
 | j+1=>m8 m e j++AB m e j
theorem RA(m:aB)(e:Esc)(k:Nat):(AB m e k).length≤2:=by
 unfold AB
 split
 · simp
 · rw[aLv]
   split<;>split<;>simp
theorem wg(m:aB)(e:Esc):∀j,(m8 m e j).length≤2*j
 | 0=>aLs _
 | j+1=>by
   have:=wg m e j
   have:=RA m e j
   simp only[m8,aLv]
   omega
theorem US{m:aB}(hm:m.ok)(e:Esc){k:Nat}(hk:k<m.roads.length):∀x∈AB m e k,x.ok m.aa.length:=by
 obtain⟨f0,f1,t0,t1, -,l0,l1, -, -, -, -, -, -, -, -⟩:=hm.rs _ (ai hk)
 have s1:=lM hm k hk false
 have s2:=lM hm k hk true
 intro x hx
 unfold AB at hx
 split at hx
 · cases hx
 · rw[List.mem_append]at hx
   rcases hx with hx | hx
   · split at hx
     · rw[List.mem_singleton]at hx
       subst hx
       exact⟨by simp only;omega,by simp only;omega,by simp only;omega,by simp only;omega⟩
     · cases hx
   · split at hx
     · rw[List.mem_singleton]at hx
       subst hx
       exact⟨by simp only;omega,by simp only;omega,by simp only;omega,by simp only;omega⟩
     · cases hx
theorem Iq{m:aB}(hm:m.ok)(e:Esc):∀j,j≤m.roads.length→∀x∈m8 m e j,x.ok m.aa.length
 | 0,_=>by simp[m8]
 | j+1,hj=>by
   intro x hx
   rw[m8,List.mem_append]at hx
   rcases hx with hx | hx
   · exact Iq hm e j (by omega) x hx
   · exact US hm e (by omega) x hx
def dP(m:aB)(e:Esc):List Edge:=m8 m e m.roads.length
def zt(m:aB)(j:Nat):List Bool:=(List.range m.aa.length).map fun p=>decide (p<j)&&(nth m.aa p).surf
theorem Dg(m:aB)(j:Nat):(zt m j).length=m.aa.length:=by simp[zt]
theorem NV(m:aB){j:Nat}(hj:j<m.aa.length):(zt m j).set j (nth m.aa j).surf=zt m (j+1):=by
 refine List.ext_getElem? fun i=>?_
 by_cases hi:i=j
 · subst hi
   rw[aLj (by rw[Dg];exact hj)]
   unfold zt
   rw[aLn,aLp hj]
   simp
 · rw[aLi (by omega)]
   unfold zt
   rw[aLn,aLn]
   by_cases hn:i<m.aa.length
   · rw[aLp hn]
     have:(decide (i<j+1))=decide (i<j):=decide_eq_decide.2 (by omega)
     simp only[aLw,this]
   · rw[aLm (by simpa using hn)];rfl
theorem RB(m:aB):zt m m.aa.length=Df m:=by
 refine List.ext_getElem? fun i=>?_
 unfold zt Df
 rw[aLn,aLn]
 by_cases hn:i<m.aa.length
 · rw[aLp hn,cG hn];simp[hn]
 · rw[aLm (by simpa using hn),aLm (by omega)];rfl
theorem NW(m:aB):zt m 0=List.replicate m.aa.length false:=by
 refine List.ext_getElem? fun i=>?_
 unfold zt
 rw[aLn,List.getElem?_replicate]
 by_cases hn:i<m.aa.length
 · rw[aLp hn];simp[hn]
 · rw[aLm (by simpa using hn)];simp[hn]
abbrev dZ(e:Esc):List D:=[.t (tL e.safe),.t (tL e.bad),.t (tL e.shut),.t (tI e.bj)]
abbrev wG(m:aB)(e:Esc)(S:List Edge)(sf bd:List Bool):aq:=[.box (ae m),.box (dZ e),.box [I 0,.nil,.nil,.nil],.box [I m.aa.length,.ref 7 0 S.length,.ref 5 0 m.aa.length,.ref 6 0 m.aa.length],.arr 4 false 0 [],kW sf,kW bd,pq S 0]
theorem aaz{m:aB}(hm:m.ok)(e:Esc)(bd:List Bool)(hb:bd.length=m.aa.length)(z0 z1 z6 z7 z8 z9 z10 z11 z12 z13 z17 z18 z19 z20 z21 z22 z23 z24 z25:D):
 exS aD K.Be ⟨[z0,z1,.bp 0 0,.bp 1 0,.bp 2 0,.bp 3 0,z6,z7,z8,z9,z10,z11,z12,z13,.t (.sl (m.aa.map Place.e)),I m.aa.length,I 0,z17,z18,z19,z20,z21,z22,z23,z24,z25],wG m e [] (zt m 0) bd⟩=some (.exit 0,⟨[.und,.und,.bp 0 0,.bp 1 0,.bp 2 0,.bp 3 0,.und,.und,.und,.und,.und,.und,.und,.und,.t (.sl (m.aa.map Place.e)),I m.aa.length,I m.aa.length,.und,.und,.und,.und,.und,.und,.und,.und,.und],wG m e [] (Df m) bd⟩):=by
 have np:=hm.np
 rw[← RB]
 refine bk (fun j=>⟨[.und,.und,.bp 0 0,.bp 1 0,.bp 2 0,.bp 3 0,.und,.und,.und,.und,.und,.und,.und,.und,.t (.sl (m.aa.map Place.e)),I m.aa.length,I j,.und,.und,.und,.und,.und,.und,.und,.und,.und],wG m e [] (zt m j) bd⟩) m.aa.length (by simp only[go_sem]) ?_ ?_ (by simp)
 · intro j hj
   have ln:=Dg m j
   have ex:(m.aa.map Place.e)[j]?=some (nth m.aa j).e:=b8 _ hj
   rw[← NV m hj]
   generalize zt m j=L at*
   generalize nth m.aa j=x at*
   obtain⟨h,su⟩:=x
   obtain⟨aa,roads⟩:=m
   simp only[ae]at*
   simp(disch:=omega)only[go_sem,K.tG,↓reduceIte,ex,BP,reduceAdd,reduceSub]
   rfl
 · have ln:=Dg m m.aa.length
   generalize zt m m.aa.length=L at*
   obtain⟨aa,roads⟩:=m
   simp only[ae]at*
   simp(disch:=omega)only[go_sem,K.tG,↓reduceIte,reduceAdd,reduceSub]
theorem aaA{m:aB}(hm:m.ok){e:Esc}(he:e.ok m)(sf bd:List Bool)(hs:sf.length=m.aa.length)(hb:bd.length=m.aa.length)(z0 z1 z6 z7 z8 z9 z10 z11 z12 z13 z14 z15 z16 z20 z21 z22 z23 z24 z25:D):
 exS aD K.Bf ⟨[z0,z1,.bp 0 0,.bp 1 0,.bp 2 0,.bp 3 0,z6,z7,z8,z9,z10,z11,z12,z13,z14,z15,z16,.t (tL e.safe),I e.safe.length,I 0,z20,z21,z22,z23,z24,z25],wG m e [] sf bd⟩=some (.exit 2,⟨[.und,.und,.bp 0 0,.bp 1 0,.bp 2 0,.bp 3 0,.und,.und,.und,.und,.und,.und,.und,.und,.und,.und,.und,.t (tL e.safe),I e.safe.length,I e.safe.length,.und,.und,.und,.und,.und,.und],wG m e [] (xl sf e.safe e.safe.length) bd⟩):=by
 have np:=hm.np
 have sl:=he.sl hm
 refine bk (fun j=>⟨[.und,.und,.bp 0 0,.bp 1 0,.bp 2 0,.bp 3 0,.und,.und,.und,.und,.und,.und,.und,.und,.und,.und,.und,.t (tL e.safe),I e.safe.length,I j,.und,.und,.und,.und,.und,.und],wG m e [] (xl sf e.safe j) bd⟩) e.safe.length (by simp only[go_sem,xl]) ?_ ?_ (by simp)
 · intro j hj
   have ln:=kJ sf e.safe j
   have hx:=qv he.s _ (ai hj)
   simp only[xl]
   generalize xl sf e.safe j=L at*
   obtain⟨aa,roads⟩:=m
   obtain⟨safe,bad,shut,bj⟩:=e
   simp only[ae,dZ]at*
   simp(disch:=omega)only[go_sem,K.tH,↓reduceIte,BP,reduceAdd,reduceSub]
   rfl
 · have ln:=kJ sf e.safe e.safe.length
   generalize xl sf e.safe e.safe.length=L at*
   obtain⟨aa,roads⟩:=m
   obtain⟨safe,bad,shut,bj⟩:=e
   simp only[ae,dZ]at*
   simp(disch:=omega)only[go_sem,K.tH,↓reduceIte,reduceAdd,reduceSub]
theorem aaB{m:aB}(hm:m.ok){e:Esc}(he:e.ok m)(sf bd:List Bool)(hs:sf.length=m.aa.length)(hb:bd.length=m.aa.length)(z0 z1 z6 z7 z8 z9 z10 z11 z12 z13 z14 z15 z16 z17 z18 z19 z23 z24 z25:D):
 exS aD K.Bg ⟨[z0,z1,.bp 0 0,.bp 1 0,.bp 2 0,.bp 3 0,z6,z7,z8,z9,z10,z11,z12,z13,z14,z15,z16,z17,z18,z19,.t (tL e.bad),I e.bad.length,I 0,z23,z24,z25],wG m e [] sf bd⟩=some (.exit 4,⟨[.und,.und,.bp 0 0,.bp 1 0,.bp 2 0,.bp 3 0,.und,.und,.und,.und,.und,.und,.und,.und,.und,.und,.und,.und,.und,.und,.t (tL e.bad),I e.bad.length,I e.bad.length,.und,.und,.und],wG m e [] sf (xl bd e.bad e.bad.length)⟩):=by
 have np:=hm.np
 have sl:=he.bl hm
 refine bk (fun j=>⟨[.und,.und,.bp 0 0,.bp 1 0,.bp 2 0,.bp 3 0,.und,.und,.und,.und,.und,.und,.und,.und,.und,.und,.und,.und,.und,.und,.t (tL e.bad),I e.bad.length,I j,.und,.und,.und],wG m e [] sf (xl bd e.bad j)⟩) e.bad.length (by simp only[go_sem,xl]) ?_ ?_ (by simp)
 · intro j hj
   have ln:=kJ bd e.bad j
   have hx:=qv he.b _ (ai hj)
   simp only[xl]
   generalize xl bd e.bad j=L at*
   obtain⟨aa,roads⟩:=m
   obtain⟨safe,bad,shut,bj⟩:=e
   simp only[ae,dZ]at*
   simp(disch:=omega)only[go_sem,K.tJ,↓reduceIte,BP,reduceAdd,reduceSub]
   rfl
 · have ln:=kJ bd e.bad e.bad.length
   generalize xl bd e.bad e.bad.length=L at*
   obtain⟨aa,roads⟩:=m
   obtain⟨safe,bad,shut,bj⟩:=e
   simp only[ae,dZ]at*
   simp(disch:=omega)only[go_sem,K.tJ,↓reduceIte,reduceAdd,reduceSub]
theorem aaC{m:aB}(hm:m.ok){e:Esc}(he:e.ok m)(sf bd:List Bool)(z0 z1 z6 z7 z8 z9 z10 z11 z12 z13 z14 z15 z16 z17 z18 z19 z20 z21 z22:D):
 exS aD K.Bh ⟨[z0,z1,.bp 0 0,.bp 1 0,.bp 2 0,.bp 3 0,z6,z7,z8,z9,z10,z11,z12,z13,z14,z15,z16,z17,z18,z19,z20,z21,z22,.t (.sl (m.roads.map Road.e)),I m.roads.length,I 0],wG m e [] sf bd⟩=some (.exit 6,⟨[.und,.und,.bp 0 0,.bp 1 0,.bp 2 0,.bp 3 0,.und,.und,.und,.und,.und,.und,.und,.und,.und,.und,.und,.und,.und,.und,.und,.und,.und,.t (.sl (m.roads.map Road.e)),I m.roads.length,I m.roads.length],wG m e (dP m e) sf bd⟩):=by
 have np:=hm.np
 have nr:=hm.nr
 have sl:=he.hl hm
 refine bk (fun j=>⟨[.und,.und,.bp 0 0,.bp 1 0,.bp 2 0,.bp 3 0,.und,.und,.und,.und,.und,.und,.und,.und,.und,.und,.und,.und,.und,.und,.und,.und,.und,.t (.sl (m.roads.map Road.e)),I m.roads.length,I j],wG m e (m8 m e j) sf bd⟩) m.roads.length (by simp only[go_sem,m8]) ?_ ?_ (by simp)
 · intro j hj
   have ln:=wg m e j
   have cn:=pI e.shut j (by omega)
   have w1:=tO hm j hj false
   have w2:=tO hm j hj true
   have b1:=lM hm j hj false
   have b2:=lM hm j hj true
   obtain⟨f0,f1,t0,t1, -, -, -, -, -, -, -, -, -, -, -⟩:=hm.rs _ (ai hj)
   simp only[m8]
   unfold AB
   have ex:(m.roads.map Road.e)[j]?=some (nth m.roads j).e:=b8 _ hj
   generalize kI m j false=u at*
   generalize kI m j true=v at*
   generalize nth m.roads j=x at*
   obtain⟨frm,to,len,ar,walk,closed,rl,rh,ll,lh⟩:=x
   simp only at f0 f1 t0 t1 ⊢
   obtain⟨p,rfl⟩:=Int.eq_ofNat_of_zero_le f0
   obtain⟨q,rfl⟩:=Int.eq_ofNat_of_zero_le t0
   simp only[Int.toNat_natCast]
   generalize m8 m e j=S at*
   obtain⟨aa,roads⟩:=m
   obtain⟨safe,bad,shut,bj⟩:=e
   simp only[ae,dZ]at*
   by_cases c:(j:Int)∈shut
   · rw[if_pos c]
     simp(disch:=omega)only[go_sem,K.jJ,↓reduceIte,ex,cn,c,decide_true,List.append_nil,reduceAdd,reduceSub]
   · rw[if_neg c]
     by_cases c1:0≤u<;>by_cases c2:0≤v
     · simp(disch:=omega)only[go_sem,K.jJ,↓reduceIte,ex,cn,c,w1,w2,c1,c2,decide_false,reduceAdd,reduceSub]
       simp only[wG,pq,ae,dZ,List.map_append,List.map_cons,List.map_nil,aLv,List.length_cons,List.length_nil,Nat.add_assoc,reduceAdd,Nat.zero_add,List.append_assoc,List.cons_append,List.nil_append]
     · simp(disch:=omega)only[go_sem,K.jJ,↓reduceIte,ex,cn,c,w1,w2,c1,c2,decide_false,List.append_nil,reduceAdd,reduceSub]
       simp only[wG,pq,ae,dZ,List.map_append,List.map_cons,List.map_nil,aLv,List.length_cons,List.length_nil,Nat.add_assoc,reduceAdd,Nat.zero_add,List.append_assoc,List.cons_append,List.nil_append]
     · simp(disch:=omega)only[go_sem,K.jJ,↓reduceIte,ex,cn,c,w1,w2,c1,c2,decide_false,List.nil_append,reduceAdd,reduceSub]
       simp only[wG,pq,ae,dZ,List.map_append,List.map_cons,List.map_nil,aLv,List.length_cons,List.length_nil,Nat.add_assoc,reduceAdd,Nat.zero_add,List.append_assoc,List.cons_append,List.nil_append]
     · simp(disch:=omega)only[go_sem,K.jJ,↓reduceIte,ex,cn,c,w1,w2,c1,c2,decide_false,List.append_nil,reduceAdd,reduceSub]
 · unfold dP
   generalize m8 m e m.roads.length=S at*
   obtain⟨aa,roads⟩:=m
   obtain⟨safe,bad,shut,bj⟩:=e
   simp only[ae,dZ]at*
   simp(disch:=omega)only[go_sem,K.jJ,↓reduceIte,reduceAdd,reduceSub]
theorem aaD{m:aB}(hm:m.ok){e:Esc}(he:e.ok m)(h1:1≤m.aa.length):
 aD 1 N.iT [.t m.e,.t e.e] []=some (.agg (DE 0 (dP m e) 0 m.aa.length),[pq (dP m e) 0,kW (sfL m e),kW (bdL m e)]):=by
 refine ao K.yb rfl ?_
 have np:=hm.np
 have nr:=hm.nr
 have l1:=aaz hm e (List.replicate m.aa.length false) (by simp)
 have l2:=aaA hm he (Df m) (List.replicate m.aa.length false) (by simp[Df]) (by simp)
 have l3:=aaB hm he (sfL m e) (List.replicate m.aa.length false) (Kn m e) (by simp)
 have l4:=aaC hm he (sfL m e) (bdL m e)
 have ls:(dP m e).length≤256:=by have:=wg m e m.roads.length;unfold dP;omega
 have e2:xl (Df m) e.safe e.safe.length=sfL m e:=rfl
 have e3:xl (List.replicate m.aa.length false) e.bad e.bad.length=bdL m e:=rfl
 rw[e2]at l2
 rw[e3]at l3
 have s1:=Kn m e
 have s2:=AA m e
 rw[NW]at l1
 generalize dP m e=W at*
 generalize sfL m e=sf at*
 generalize bdL m e=bd at*
 generalize Df m=sl at*
 obtain⟨aa,roads⟩:=m
 obtain⟨safe,bad,shut,bj⟩:=e
 simp only[ae,dZ,wG]at*
 have rp:List.replicate aa.length (D.t (T.bool false))=List.map D.t (List.map T.bool (List.replicate aa.length false)):=by simp only[List.map_replicate]
 simp(disch:=omega)only[go_sem,K.iT,↓reduceIte,reduceAdd,reduceSub]
 rw[rp]
 refine iz (l1 _ _ _ _ _ _ _ _ _ _ _ _ _ _ _ _ _ _ _) ?_
 simp(disch:=omega)only[go_sem,K.iT,↓reduceIte,reduceAdd,reduceSub]
 refine iz (l2 _ _ _ _ _ _ _ _ _ _ _ _ _ _ _ _ _ _ _) ?_
 simp(disch:=omega)only[go_sem,K.iT,↓reduceIte,reduceAdd,reduceSub]
 refine iz (l3 _ _ _ _ _ _ _ _ _ _ _ _ _ _ _ _ _ _ _) ?_
 simp(disch:=omega)only[go_sem,K.iT,↓reduceIte,reduceAdd,reduceSub]
 refine iz (l4 _ _ _ _ _ _ _ _ _ _ _ _ _ _ _ _ _ _ _) ?_
 simp(disch:=omega)only[go_sem,K.iT,↓reduceIte,reduceAdd,reduceSub]
end Go.Ev
namespace Go.Ev
open Go
section
variable [Lib]
def aaE(H:aq)(zero:T)(sz:Nat)(x:D):Option (D×aq):=GM H x zero sz
@[go_sem] theorem alh (call : aW) (get : X → Option D) (H : aq) (x : X) (zero : T) (sz : Nat) : evO call get H (.clr x zero sz) = (get x).bind (aaE H zero sz) := (rfl)
@[go_sem] theorem aki (H : aq) (zero : T) (sz ep n lo hi : Nat) (es : List D) (h1 : n = es.length) (h2 : lo ≤ hi) (h3 : hi ≤ n) : aaE (.arr sz false ep es :: H) zero sz (.sub 0 ep n lo hi) =
 some (.tup [],.arr sz false ep (es.take lo++List.replicate (hi-lo) (.t zero)++es.drop hi)::H):=by
 have a:jc (.arr sz false ep es::H) 0 ep n=some (sz,false,es):=by
  show(if ep=ep∧n=es.length then some (sz,false,es)else none)=_
  rw[if_pos ⟨rfl,h1⟩]
 simp only[aaE,GM,a,aLq,aa3]
 by_cases h:hi-lo=0
 · rw[if_pos h,h]
   have:hi=lo:=by omega
   subst this
   simp
 · rw[if_neg h,if_pos (by simp)]
   have:lo+(hi-lo)=hi:=by omega
   rw[this]
   rfl
def aaF(H:aq)(x hi:Option D):Option (D×aq):=x.bind fun a=>(hi.bind intOf).bind fun h=>adj H a h
@[go_sem] theorem ali (call : aW) (get : X → Option D) (H : aq) (x hi : X) : evO call get H (.pop x hi) = aaF H (get x) (get hi) := (rfl)
@[go_sem] theorem akj (H : aq) (k : IntKind) (sz ep n : Nat) (i : Int) (es : List D) (h1 : n = es.length) (h2 : 0 ≤ i) (h3 : i ≤ n) : aaF (.arr sz false ep es :: H) (some (.ref 0 ep n)) (some (.t (.int k i))) =
 some (.ref 0 (ep+1) i.toNat,.arr sz false (ep+1) (es.take i.toNat)::H):=by
 have a:jc (.arr sz false ep es::H) 0 ep n=some (sz,false,es):=by
  show(if ep=ep∧n=es.length then some (sz,false,es)else none)=_
  rw[if_pos ⟨rfl,h1⟩]
 have b:intOf (.t (.int k i))=some i:=rfl
 have c:idx i=some i.toNat:=by unfold idx;rw[if_pos h2]
 simp only[aaF,aLq,b,adj,a,c]
 rw[if_pos ⟨by omega,trivial⟩]
 rfl
end
variable [Lib] [cu] [bM] [gu] [gk] [i7] [fK] [fI] [iv] [gj] [dq] [cT] [fT] [ff] [jA] [iY] [gC] [eC] [jL]
theorem Ko(l:List Int)(hl:l.length≤100000000)(e:Edge):aD 0 N.dL [.t e.e,.bp 0 0] [.box [.t (tL l)]]=some (B (decide ((e.r:Int)∈l)),[.box [.t (tL l)]]):=by
 refine ao K.vC rfl ?_
 have cn:=pI l e.r (by omega)
 obtain⟨r,a,b,t⟩:=e
 simp only at*
 simp(disch:=omega)only[go_sem,K.dL,↓reduceIte,cn,reduceAdd,reduceSub]
theorem RC(l:List Int)(hll:l.length≤100000000)(E:List Edge)(hl:E.length≤1000):
 aD 0 N.ax [.ref 0 0 E.length,.fn N.dL [.bp 1 0]] [pq E 0,.box [.t (tL l)]]=
  some (I (match (List.range E.length).find? (fun j=>decide (((nth E j).r:Int)∈l))with | some j=>(j:Int) | none=> -1),[pq E 0,.box [.t (tL l)]]):=by
 refine ao K.cI rfl ?_
 have loop:∀z2 z3:D,exS aD K.dE ⟨[.ref 0 0 E.length,.fn N.dL [.bp 1 0],z2,z3,I E.length,I 0],[pq E 0,.box [.t (tL l)]]⟩=
  some (match (List.range E.length).find? (fun j=>decide (((nth E j).r:Int)∈l))with
   | some j=>(.ret,⟨[.ref 0 0 E.length,.fn N.dL [.bp 1 0],I j,I j,I E.length,I j],[pq E 0,.box [.t (tL l)]]⟩)
   | none=>(.exit 0,⟨[.ref 0 0 E.length,.fn N.dL [.bp 1 0],.und,.und,I E.length,I E.length],[pq E 0,.box [.t (tL l)]]⟩)):=by
  intro z2 z3
  refine cH (fun j=>⟨[.ref 0 0 E.length,.fn N.dL [.bp 1 0],.und,.und,I E.length,I j],[pq E 0,.box [.t (tL l)]]⟩) E.length (fun j=>decide (((nth E j).r:Int)∈l)) _ _ rfl ?_ ?_ ?_ (by simp)
  · intro j hj hp'
    have b1:=Ko l hll (nth E j)
    rw[hp']at b1
    simp(disch:=omega)only[go_sem,K.aU,↓reduceIte,b1,reduceAdd,reduceSub]
  · intro j hj hp'
    have b1:=Ko l hll (nth E j)
    rw[hp']at b1
    refine⟨?_,by simp⟩
    simp(disch:=omega)only[go_sem,K.aU,↓reduceIte,b1,reduceAdd,reduceSub]
  · simp(disch:=omega)only[go_sem,K.aU,↓reduceIte,reduceAdd,reduceSub]
 cases hf:(List.range E.length).find? (fun j=>decide (((nth E j).r:Int)∈l))with
 | some j=>
   rw[hf]at loop
   simp(disch:=omega)only[go_sem,K.ax,↓reduceIte,loop,reduceAdd,reduceSub]
 | none=>
   rw[hf]at loop
   simp(disch:=omega)only[go_sem,K.ax,↓reduceIte,loop,reduceAdd,reduceSub]
def o8(l:List Int)(e:Edge):Bool:= !decide ((e.r:Int)∈l)
def BZ(l:List Int)(E:List Edge):List Edge:=E.filter (o8 l)
def ym(l:List Int)(E:List Edge)(j:Nat):List Edge:=(E.take j).filter (o8 l)
theorem zu(l:List Int)(E:List Edge)(j:Nat):(ym l E j).length≤j:=by
 unfold ym
 have:=List.length_filter_le (o8 l) (E.take j)
 have:=List.length_take_le j E
 omega
theorem zv(l:List Int)(E:List Edge){j:Nat}(hj:j<E.length):ym l E (j+1)=ym l E j++(if o8 l (nth E j)then [nth E j]else []):=by
 unfold ym
 rw[List.take_succ,cG hj,List.filter_append]
 cases h:o8 l (nth E j)<;>simp[h]
theorem FO(l:List Int)(E:List Edge):ym l E E.length=BZ l E:=by unfold ym BZ;rw[List.take_length]
theorem UT{A B:List Edge}{i:Nat}(h:A.length≤i):nth (A++B) i=nth B (i-A.length):=by
 unfold nth
 simp only[aLl,aLh h]
theorem RD{A:List Edge}{k i:Nat}:nth (A.drop k) i=nth A (k+i):=by
 unfold nth
 simp only[aLl,List.getElem?_drop]
def FP(l:List Int)(E:List Edge)(j:Nat):List Edge:=ym l E j++E.drop (ym l E j).length
theorem FQ(l:List Int)(E:List Edge){j:Nat}(hj:j≤E.length):(FP l E j).length=E.length:=by
 unfold FP
 have:=zu l E j
 rw[aLv,List.length_drop];omega
theorem UU(l:List Int)(E:List Edge)(j:Nat){i:Nat}(hi:j≤i):nth (FP l E j) i=nth E i:=by
 unfold FP
 have:=zu l E j
 rw[UT (by omega),RD]
 congr 1
 omega
theorem UW(l:List Int)(E:List Edge){j:Nat}(hj:j<E.length)(h:o8 l (nth E j)=true):(FP l E j).set (ym l E j).length (nth E j)=FP l E (j+1):=by
 unfold FP
 have dl:=zu l E j
 rw[zv l E hj,if_pos h,List.set_append_right _ _ (aLs _),Nat.sub_self,aLv,List.length_singleton,List.append_assoc]
 congr 1
 have:E.drop (ym l E j).length=nth E (ym l E j).length::E.drop ((ym l E j).length+1):=by
  have hl:(ym l E j).length<E.length:=by omega
  rw[List.drop_eq_getElem_cons hl]
  congr 1
  have:=cG hl
  rw[aLc hl]at this
  exact Option.some.inj this
 rw[this]
 rfl
theorem RE(l:List Int)(E:List Edge){j:Nat}(hj:j<E.length)(h:o8 l (nth E j)=false):ym l E (j+1)=ym l E j∧FP l E j=FP l E (j+1):=by
 have:ym l E (j+1)=ym l E j:=by rw[zv l E hj,h];simp
 unfold FP
 rw[this]
 exact⟨rfl,rfl⟩
theorem UX(L:List Edge)(j:Nat)(a b c d:Int)(x:Edge)(h:x.e= .agg [.int .i64 a,.int .i64 b,.int .i64 c,.int .i64 d]):(List.map D.t (List.map Edge.e L)).set j (D.t (.agg [.int .i64 a,.int .i64 b,.int .i64 c,.int .i64 d]))=List.map D.t (List.map Edge.e (L.set j x)):=by
 simp only[List.map_set,h]
theorem UY(l:List Int)(hll:l.length≤100000000)(E:List Edge)(hl:E.length≤1000)(i:Nat)(hi:i<E.length)(h0:ym l E (i+1)=ym l E i)(h00:(ym l E i).length=i)(z2 z5:D):
 exS aD K.fY ⟨[.ref 0 0 E.length,.fn N.dL [.bp 1 0],z2,I i,I (i+1),z5],[pq E 0,.box [.t (tL l)]]⟩=
  some (.exit 0,⟨[.ref 0 0 E.length,.fn N.dL [.bp 1 0],.und,I (BZ l E).length,I E.length,.und],[pq (FP l E E.length) 0,.box [.t (tL l)]]⟩):=by
 have e0:FP l E (i+1)=E:=by
  unfold FP
  rw[h0]
  have:ym l E i=E.take i:=by
   have:=List.filter_sublist (p:=o8 l) (l:=E.take i)
   exact this.eq_of_length (by rw[show((E.take i).filter (o8 l)).length=i from h00,List.length_take];omega)
  rw[h00,this,List.take_append_drop]
 rw[← FO]
 refine bk (fun k=>⟨[.ref 0 0 E.length,.fn N.dL [.bp 1 0],.und,I (ym l E (i+1+k)).length,I ((i+1+k:Nat)),.und],[pq (FP l E (i+1+k)) 0,.box [.t (tL l)]]⟩) (E.length-(i+1)) ?_ ?_ ?_ (by simp)
 · simp only[Nat.add_zero,e0,h0,h00]
   rfl
 · intro k hk
   have hj:i+1+k<E.length:=by omega
   rw[show i+1+(k+1)=i+1+k+1 from rfl]
   generalize i+1+k=j at*
   have t1:=Ko l hll (nth E j)
   have ln:=FQ l E (j:=j) (by omega)
   have nx:=UU l E j (i:=j) (aLs _)
   have dl:=zu l E j
   have st:=UW l E hj
   have sm:=RE l E hj
   have sp:=zv l E hj
   generalize hx:nth E j=x at*
   have hk:o8 l x= !decide ((x.r:Int)∈l):=rfl
   generalize decide ((x.r:Int)∈l)=c at*
   generalize FP l E j=A at*
   generalize ym l E j=F at*
   obtain⟨xr,xa,xb,xt⟩:=x
   cases c with
   | true=>
     obtain⟨s1,s2⟩:=sm hk
     rw[s1,←s2]
     simp(disch:=omega)only[go_sem,K.bS,↓reduceIte,t1,nx,Bool.not_true,reduceAdd,reduceSub]
   | false=>
     rw[← st hk,sp,if_pos (show o8 l ⟨xr,xa,xb,xt⟩=true from hk)]
     simp(disch:=omega)only[go_sem,K.bS,↓reduceIte,t1,nx,Bool.not_false,aLv,List.length_singleton,UX A F.length xr xa xb xt ⟨xr,xa,xb,xt⟩ rfl,reduceAdd,reduceSub]
 · have:i+1+(E.length-(i+1))=E.length:=by omega
   rw[this]
   have ln:=FQ l E (j:=E.length) (aLs _)
   generalize FP l E E.length=A at*
   generalize ym l E E.length=F at*
   simp(disch:=omega)only[go_sem,K.bS,↓reduceIte,reduceAdd,reduceSub]
theorem RF(l:List Int)(hll:l.length≤100000000)(E:List Edge)(hl:E.length≤1000):
 aD 1 N.aE [.ref 0 0 E.length,.fn N.dL [.bp 1 0]] [pq E 0,.box [.t (tL l)]]=
  some (.ref 0 (if(E.all (o8 l))=true then 0 else 1) (BZ l E).length,[pq (BZ l E) (if(E.all (o8 l))=true then 0 else 1),.box [.t (tL l)]]):=by
 refine ao K.dD rfl ?_
 have ix:=RC l hll E hl
 cases hf:(List.range E.length).find? (fun j=>decide (((nth E j).r:Int)∈l))with
 | none=>
   rw[hf]at ix
   have al:E.all (o8 l)=true:=by
    rw[aLx]
    intro e he
    obtain⟨j,hj,rfl⟩:=List.mem_iff_getElem.1 he
    have:=List.find?_eq_none.1 hf j (aLu.2 hj)
    have e2:nth E j=E[j]:=bC (aLc hj)
    rw[e2]at this
    unfold o8
    simpa using this
   have de:BZ l E=E:=by unfold BZ;exact List.filter_eq_self.2 (aLx.1 al)
   rw[if_pos al,de]
   simp(disch:=omega)only[go_sem,K.aE,↓reduceIte,ix,reduceAdd,reduceSub]
 | some i=>
   rw[hf]at ix
   have hi:=aLu.1 (List.mem_of_find?_eq_some hf)
   have hp:=List.find?_some hf
   have lt:∀j,j<i→o8 l (nth E j)=true:=by
    intro j hj
    have:=(List.find?_range_eq_some.1 hf).2.2 j hj
    unfold o8
    simpa using this
   have al:¬E.all (o8 l)=true:=by
    intro h
    have:=aLx.1 h _ (ai hi)
    unfold o8 at this
    rw[hp]at this
    cases this
   have tk:ym l E i=E.take i:=by
    unfold ym
    rw[List.filter_eq_self]
    intro e he
    obtain⟨j,hj,rfl⟩:=List.mem_iff_getElem.1 he
    rw[List.length_take]at hj
    have:=lt j (by omega)
    have e2:nth E j=E[j]:=bC (aLc (by omega))
    rw[e2]at this
    simpa using this
   have h00:(ym l E i).length=i:=by rw[tk,List.length_take];omega
   have h0:ym l E (i+1)=ym l E i:=by
    rw[zv l E hi]
    have:o8 l (nth E i)=false:=by unfold o8;rw[hp];rfl
    rw[this];simp
   have lp:=UY l hll E hl i hi h0 h00
   have dl:=zu l E E.length
   have al2:=FQ l E (j:=E.length) (aLs _)
   have da:(FP l E E.length).take (BZ l E).length=BZ l E:=by
    unfold FP
    rw[FO,List.take_left]
   rw[FO]at dl
   rw[if_neg al]
   generalize FP l E E.length=A at*
   generalize BZ l E=F at*
   have ta:List.take F.length (List.map D.t (List.map Edge.e A))=List.map D.t (List.map Edge.e F):=by rw[← List.map_take,←List.map_take,da]
   have al3:E.length=(List.map D.t (List.map Edge.e A)).length:=by simp[al2]
   have ta2:∀x y:List D,List.take F.length (List.take F.length (List.map D.t (List.map Edge.e A))++x++y)=List.map D.t (List.map Edge.e F):=by
    intro x y
    rw[ta,List.append_assoc,List.take_left' (by simp)]
   have al4:∀z:D,E.length=(List.take F.length (List.map D.t (List.map Edge.e A))++List.replicate (E.length-F.length) z++List.drop E.length (List.map D.t (List.map Edge.e A))).length:=by
    intro z
    simp only[aLv,List.length_take,List.length_replicate,List.length_drop,List.length_map]
    omega
   have al5:=al4 (D.t (T.agg [T.int IntKind.i64 0,T.int IntKind.i64 0,T.int IntKind.i64 0,T.int IntKind.i64 0]))
   simp(disch:=omega)only[go_sem,K.aE,↓reduceIte,ix,lp,ta2,reduceAdd,reduceSub]
end Go.Ev
namespace Go.Ev
open Go
variable [Lib] [cu] [bM] [gu] [gk] [i7] [fK] [fI] [iv] [gj] [dq] [cT] [fT] [ff] [jA] [iY] [gC] [eC] [jL]
def Ir(m:aB)(p:Nat):Nat→Int
 | 0=>0
 | j+1=>if(nth m.roads j).frm=p then max (if(nth m.roads j).to=p then max (Ir m p j) (kI m j false)else Ir m p j) (kI m j true)
  else(if(nth m.roads j).to=p then max (Ir m p j) (kI m j false)else Ir m p j)
def NX(m:aB)(p:Nat):Int:=Ir m p m.roads.length
theorem Dh{m:aB}(hm:m.ok)(p:Nat):∀j,j≤m.roads.length→0≤Ir m p j∧Ir m p j≤500001
 | 0,_=>by simp[Ir]
 | j+1,hj=>by
   have ih:=Dh hm p j (by omega)
   have b1:=lM hm j (by omega) false
   have b2:=lM hm j (by omega) true
   unfold Ir
   split<;>split<;>omega
theorem aaG{m:aB}(hm:m.ok)(p:Nat)(hp:p<m.aa.length):aD 0 N.nQ [.t m.e,I p] []=some (I (NX m p),[]):=by
 refine ao K.Ay rfl ?_
 have np:=hm.np
 have nr:=hm.nr
 have loop:∀z0 z3 z5 z6:D,exS aD K.De ⟨[z0,I p,.bp 0 0,z3,I 0,z5,z6,.t (.sl (m.roads.map Road.e)),I m.roads.length,I 0],[.box (ae m)]⟩=
  some (.exit 0,⟨[.und,I p,.bp 0 0,.und,I (NX m p),.und,.und,.t (.sl (m.roads.map Road.e)),I m.roads.length,I m.roads.length],[.box (ae m)]⟩):=by
  intro z0 z3 z5 z6
  refine bk (fun j=>⟨[.und,I p,.bp 0 0,.und,I (Ir m p j),.und,.und,.t (.sl (m.roads.map Road.e)),I m.roads.length,I j],[.box (ae m)]⟩) m.roads.length rfl ?_ ?_ (by simp)
  · intro j hj
    have w1:=tO hm j hj false
    have w2:=tO hm j hj true
    have b0:=Dh hm p j (by omega)
    have b1:=lM hm j hj false
    have b2:=lM hm j hj true
    have ex:(m.roads.map Road.e)[j]?=some (nth m.roads j).e:=b8 _ hj
    conv=>rhs;unfold Ir
    generalize Ir m p j=L at*
    generalize kI m j false=u at*
    generalize kI m j true=v at*
    generalize nth m.roads j=x at*
    obtain⟨frm,to,len,ar,walk,closed,rl,rh,ll,lh⟩:=x
    simp only at*
    obtain⟨aa,roads⟩:=m
    simp only[ae]at*
    by_cases c1:frm=p<;>by_cases c2:to=p
    all_goals simp(disch:=omega)only[go_sem,K.vu,↓reduceIte,ex,w1,w2,c1,c2,reduceAdd,reduceSub]
  · obtain⟨aa,roads⟩:=m
    simp only[ae]at*
    simp(disch:=omega)only[go_sem,K.vu,↓reduceIte,reduceAdd,reduceSub]
    rfl
 generalize NX m p=r at*
 obtain⟨aa,roads⟩:=m
 simp only[ae]at*
 simp(disch:=omega)only[go_sem,K.nQ,↓reduceIte,loop,reduceAdd,reduceSub]
abbrev od(P:List Edge):List Int:=P.map fun e=>(e.r:Int)
abbrev Kp(P:List Edge):List Int:=P.map fun e=>(e.b:Int)
def w1E(m:aB)(e:Esc)(p:Nat):List Edge:=aay (dP m e) (sfL m e) (bdL m e) m.aa.length p
def c1E(m:aB)(e:Esc)(p:Nat):Int:=(nth (iV (dP m e) (sfL m e) (bdL m e) m.aa.length) p).t
def bd2(m:aB)(e:Esc)(p:Nat):List Bool:=xl (bdL m e) (Kp (w1E m e p)) (Kp (w1E m e p)).length
def st2(m:aB)(e:Esc)(p:Nat):List Edge:=BZ (od (w1E m e p)) (dP m e)
def w2E(m:aB)(e:Esc)(p:Nat):List Edge:=aay (st2 m e p) (sfL m e) (bd2 m e p) m.aa.length p
def c2E(m:aB)(e:Esc)(p:Nat):Int:=(nth (iV (st2 m e p) (sfL m e) (bd2 m e p) m.aa.length) p).t
def akk(m:aB)(e:Esc)(p:Nat):D:=
 if nth (sfL m e) p=true then .tup [.t (tL []),.t (tL []),.t (.agg [tI 0,tI 0]),B true]
 else if c1E m e p<km then
  if c2E m e p<km then .tup [.t (tL (od (w1E m e p))),.t (tL (od (w2E m e p))),.t (.agg [tI (c1E m e p),tI (c2E m e p)]),B true]
  else .tup [.t (tL []),.t (tL []),.t (.agg [tI (c1E m e p),tI 0]),B false]
 else .tup [.t (tL []),.t (tL []),.t (.agg [tI 0,tI 0]),B false]
theorem cY{m:aB}(hm:m.ok)(e:Esc):∀x∈dP m e,x.ok m.aa.length:=Iq hm e _ (aLs _)
theorem RG{m:aB}(hm:m.ok)(e:Esc):(dP m e).length≤256:=by have:=wg m e m.roads.length;have:=hm.nr;unfold dP;omega
theorem FR{n:Nat}(l:List Int){E:List Edge}(h:∀e∈E,e.ok n):∀e∈BZ l E,e.ok n:=fun e he=>h e (List.mem_filter.1 he).1
theorem UZ(l:List Int)(E:List Edge):(BZ l E).length≤E.length:=List.length_filter_le _ _
theorem Is{m:aB}(hm:m.ok)(e:Esc){p:Nat}(hp:p<m.aa.length)(hf:c1E m e p<km):WU km m.aa.length (dP m e) (uB (sfL m e) (bdL m e)) (rz (sfL m e)) (iV (dP m e) (sfL m e) (bdL m e) m.aa.length) p (w1E m e p):=
 Rn (Az (cY hm e)) (cY hm e) _ p hp hf (aLs _)
theorem FT{m:aB}(hm:m.ok)(e:Esc){p:Nat}(hp:p<m.aa.length)(hf:c1E m e p<km):(w1E m e p).length≤64000000:=by
 have key:∀k p,(mu (rz (sfL m e)) (uB (sfL m e) (bdL m e)) (dP m e) (iV (dP m e) (sfL m e) (bdL m e) m.aa.length) k p).length≤k:=by
  intro k
  induction k with
  | zero=>intro p;simp[mu]
  | succ k ih=>
    intro p
    unfold mu
    split
    · simp
    · split
      · have:=ih (by assumption:Edge).b;simp;omega
      · simp
 have h1:=key (nth (iV (dP m e) (sfL m e) (bdL m e) m.aa.length) p).r.toNat p
 have h2:=tR (sf:=sfL m e) (bd:=bdL m e) (cY hm e) hm.np hp hf
 unfold w1E aay
 omega
theorem U4(E:List Edge)(sf bd:List Bool)(n:Nat)(hs:sf.length=n)(hb:bd.length=n)(p:Nat)(m:aB)(e:Esc)(W M:List Int)(hM:∀x∈M,0≤x∧x<n)(hl:M.length≤100000000)(hn:n≤64)(t1:Int)(z0 z1 z3 z4 z6 z8 z10 z11 z12:D):
 exS aD K.Dd ⟨[z0,z1,I p,z3,z4,.bp 2 0,z6,.bp 3 0,z8,.bp 7 0,z10,z11,z12,.t (tL M),I M.length,I 0],[.box (ae m),.box (dZ e),.box [.t (tL W)],.box [I t1,I 0],pq E 0,kW sf,kW bd,.box (DE 4 E 0 n)]⟩=
  some (.exit 0,⟨[.und,.und,I p,.und,.und,.bp 2 0,.und,.bp 3 0,.und,.bp 7 0,.und,.und,.und,.t (tL M),I M.length,I M.length],[.box (ae m),.box (dZ e),.box [.t (tL W)],.box [I t1,I 0],pq E 0,kW sf,kW (xl bd M M.length),.box (DE 4 E 0 n)]⟩):=by
 refine bk (fun j=>⟨[.und,.und,I p,.und,.und,.bp 2 0,.und,.bp 3 0,.und,.bp 7 0,.und,.und,.und,.t (tL M),I M.length,I j],[.box (ae m),.box (dZ e),.box [.t (tL W)],.box [I t1,I 0],pq E 0,kW sf,kW (xl bd M j),.box (DE 4 E 0 n)]⟩) M.length (by simp only[go_sem,xl]) ?_ ?_ (by simp)
 · intro j hj
   have ln:=kJ bd M j
   have hx:=hM _ (ai hj)
   simp only[xl]
   generalize xl bd M j=L at*
   simp(disch:=omega)only[go_sem,K.vq,↓reduceIte,BP,reduceAdd,reduceSub]
 · have ln:=kJ bd M M.length
   generalize xl bd M M.length=L at*
   simp(disch:=omega)only[go_sem,K.vq,↓reduceIte,reduceAdd,reduceSub]
theorem afQ{m:aB}(hm:m.ok){e:Esc}(he:e.ok m)(p:Nat)(hp:p<m.aa.length):aD 0 N.ja [.t m.e,.t e.e,I p] []=some (akk m e p,[]):=by
 refine ao K.we rfl ?_
 have np:=hm.np
 have th:=Io hm he p hp
 have fi:=aaD hm he (by omega)
 have wl:=RG hm e
 have s1:=Kn m e
 have s2:=AA m e
 have b1:=Rz (dP m e) (sfL m e) (bdL m e) 0 m.aa.length s1 s2 np (cY hm e) (by omega) p hp
 unfold akk
 cases hsp:nth (sfL m e) p with
 | true=>
   rw[if_pos rfl]
   generalize sfL m e=sf at*
   generalize bdL m e=bd at*
   generalize dP m e=E at*
   obtain⟨aa,roads⟩:=m
   obtain⟨safe,bad,shut,bj⟩:=e
   simp only[ae,dZ]at*
   simp(disch:=omega)only[go_sem,K.ja,↓reduceIte,th,fi,hsp,reduceAdd,reduceSub]
   rfl
 | false=>
   rw[if_neg (by simp)]
   have pk:=fun hf=>Is hm e hp hf
   have wl1:=fun hf=>FT hm e hp hf
   have dl:=RF (od (w1E m e p))
   have lp:=U4 (dP m e) (sfL m e) (bdL m e) m.aa.length s1 s2 p m e (od (w1E m e p)) (Kp (w1E m e p))
   have b2:=fun ep=>Rz (st2 m e p) (sfL m e) (bd2 m e p) ep m.aa.length s1 (by unfold bd2;rw[kJ,s2]) np (FR _ (cY hm e)) (by have:=UZ (od (w1E m e p)) (dP m e);unfold st2;omega) p hp
   have e2:xl (bdL m e) (Kp (w1E m e p)) (Kp (w1E m e p)).length=bd2 m e p:=rfl
   have e3:BZ (od (w1E m e p)) (dP m e)=st2 m e p:=rfl
   have db:UR (dP m e) (sfL m e) (bdL m e) m.aa.length p=if c1E m e p<km then .tup [.t (tL (od (w1E m e p))),I (c1E m e p),.t (tL ((p:Int)::Kp (w1E m e p))),B true]else .tup [.t (tL []),I 0,.t (tL []),B false]:=rfl
   have db2:UR (st2 m e p) (sfL m e) (bd2 m e p) m.aa.length p=if c2E m e p<km then .tup [.t (tL (od (w2E m e p))),I (c2E m e p),.t (tL ((p:Int)::Kp (w2E m e p))),B true]else .tup [.t (tL []),I 0,.t (tL []),B false]:=rfl
   by_cases h1:c1E m e p<km
   · rw[if_pos h1]
     rw[if_pos h1]at db
     have pk:=pk h1
     have wl1:=wl1 h1
     have pm:∀x∈Kp (w1E m e p),0≤x∧x<m.aa.length:=by
      intro x hx
      obtain⟨y,hy,rfl⟩:=List.mem_map.1 hx
      have:=(pk.mem y hy).2.2
      omega
     have lp:=lp pm (by simp;omega) np (c1E m e p)
     have dl:=dl (by simp;omega) (dP m e) (by omega)
     rw[e2]at lp
     rw[e3]at dl
     rw[db]at b1
     have c1:=tR (sf:=sfL m e) (bd:=bdL m e) (cY hm e) np hp h1
     have c2:=fun h2=>tR (sf:=sfL m e) (bd:=bd2 m e p) (FR (od (w1E m e p)) (cY hm e)) np hp h2
     have ml:(Kp (w1E m e p)).length≤64000000:=by simp;omega
     have rl:(od (w1E m e p)).length≤64000000:=by simp;omega
     have e4:(nth (iV (dP m e) (sfL m e) (bdL m e) m.aa.length) p).t=c1E m e p:=rfl
     rw[e4]at c1
     generalize hep:(if(dP m e).all (o8 (od (w1E m e p)))=true then 0 else 1)=ep at*
     have b2:=b2 ep
     rw[db2]at b2
     clear db db2 e2 e3 pm pk wl1 e4 hep c2
     generalize Kp (w1E m e p)=PM at*
     generalize od (w1E m e p)=PR at*
     generalize Kp (w2E m e p)=QM at*
     generalize od (w2E m e p)=QR at*
     generalize c1E m e p=t1 at*
     generalize c2E m e p=t2 at*
     generalize st2 m e p=E2 at*
     generalize bd2 m e p=bdx at*
     generalize sfL m e=sf at*
     generalize bdL m e=bd at*
     generalize dP m e=E at*
     obtain⟨aa,roads⟩:=m
     obtain⟨safe,bad,shut,bj⟩:=e
     simp only[ae,dZ]at*
     simp(disch:=omega)only[go_sem,K.ja,↓reduceIte,th,fi,hsp,b1,Nat.reduceMul,reduceAdd,reduceSub]
     refine iz (lp _ _ _ _ _ _ _ _ _) ?_
     by_cases h2:t2<km
     · rw[if_pos h2]
       rw[if_pos h2]at b2
       simp(disch:=omega)only[go_sem,K.ja,↓reduceIte,dl,b2,Nat.reduceMul,reduceAdd,reduceSub]
     · rw[if_neg h2]
       rw[if_neg h2]at b2
       simp(disch:=omega)only[go_sem,K.ja,↓reduceIte,dl,b2,Nat.reduceMul,reduceAdd,reduceSub]
       rfl
   · rw[if_neg h1]
     rw[if_neg h1]at db
     rw[db]at b1
     clear db db2 b2 e2 e3 lp dl wl1 pk
     generalize sfL m e=sf at*
     generalize bdL m e=bd at*
     generalize dP m e=E at*
     obtain⟨aa,roads⟩:=m
     obtain⟨safe,bad,shut,bj⟩:=e
     simp only[ae,dZ,tL,List.map_nil]at*
     simp(disch:=omega)only[go_sem,K.ja,↓reduceIte,th,fi,hsp,b1,reduceAdd,reduceSub]
def aN(m:aB)(e:Esc)(p:Nat):Bool:=
 if nth (sfL m e) p=true then decide (NX m p≤e.bj)
 else decide (c1E m e p<km∧c2E m e p<km∧NX m p+max (c1E m e p) (c2E m e p)≤e.bj)
theorem wm{m:aB}(hm:m.ok){e:Esc}(he:e.ok m)(p:Nat)(hp:p<m.aa.length):aD 0 N.cX [.t m.e,.t e.e,I p] []=some (B (aN m e p),[]):=by
 refine ao K.oZ rfl ?_
 have tw:=afQ hm he p hp
 have lg:=aaG hm p hp
 have lb:=Dh hm p m.roads.length (aLs _)
 have le:Ir m p m.roads.length=NX m p:=rfl
 rw[le]at lb
 have c1:=fun h1=>tR (sf:=sfL m e) (bd:=bdL m e) (cY hm e) hm.np hp h1
 have c2:=fun h2=>tR (sf:=sfL m e) (bd:=bd2 m e p) (FR (od (w1E m e p)) (cY hm e)) hm.np hp h2
 have e1:(nth (iV (dP m e) (sfL m e) (bdL m e) m.aa.length) p).t=c1E m e p:=rfl
 have e2:(nth (iV (BZ (od (w1E m e p)) (dP m e)) (sfL m e) (bd2 m e p) m.aa.length) p).t=c2E m e p:=rfl
 rw[e1]at c1
 rw[e2]at c2
 unfold aN
 unfold akk at tw
 generalize NX m p=lag at*
 generalize c1E m e p=t1 at*
 generalize c2E m e p=t2 at*
 generalize tL (od (w1E m e p))=PR at*
 generalize tL (od (w2E m e p))=QR at*
 generalize tL []=NR at*
 have fc:km=1152921504606846976:=rfl
 clear e1 e2 le
 cases hs:nth (sfL m e) p with
 | true=>
   rw[hs,if_pos rfl]at tw
   rw[if_pos rfl]
   clear hs c1 c2
   obtain⟨aa,roads⟩:=m
   obtain⟨safe,bad,shut,bj⟩:=e
   have:=he.l0
   have:=he.l1
   simp only at*
   have mx:max (0:Int) 0=0:=by omega
   by_cases c:lag≤bj
   · simp(disch:=omega)only[go_sem,K.cX,↓reduceIte,tw,lg,c,Int.add_zero,mx,decide_true,Nat.reduceMul,reduceAdd,reduceSub]
   · simp(disch:=omega)only[go_sem,K.cX,↓reduceIte,tw,lg,c,Int.add_zero,mx,decide_false,Nat.reduceMul,reduceAdd,reduceSub]
 | false=>
   rw[hs,if_neg (by simp)]at tw
   rw[if_neg (by simp)]
   clear hs
   obtain⟨aa,roads⟩:=m
   obtain⟨safe,bad,shut,bj⟩:=e
   have:=he.l0
   have:=he.l1
   simp only at*
   by_cases h1:t1<km
   · rw[if_pos h1]at tw
     have c1:=c1 h1
     by_cases h2:t2<km
     · rw[if_pos h2]at tw
       have c2:=c2 h2
       by_cases c:lag+max t1 t2≤bj
       · simp(disch:=omega)only[go_sem,K.cX,↓reduceIte,tw,lg,c,h1,h2,decide_true,Nat.reduceMul,and_self,reduceAdd,reduceSub]
       · simp(disch:=omega)only[go_sem,K.cX,↓reduceIte,tw,lg,c,h1,h2,decide_false,Nat.reduceMul,and_false,reduceAdd,reduceSub]
     · rw[if_neg h2]at tw
       clear c2
       simp(disch:=omega)only[go_sem,K.cX,↓reduceIte,tw,lg,h2,false_and,and_false,decide_false,reduceAdd,reduceSub]
   · rw[if_neg h1]at tw
     clear c1 c2
     simp(disch:=omega)only[go_sem,K.cX,↓reduceIte,tw,lg,h1,false_and,decide_false,reduceAdd,reduceSub]
abbrev nvr:Int:=1099511627776
def W5(m:aB)(e:Esc)(p j:Nat):List Edge:=if 0≤(jB m j p).2∧(j:Int)∉e.shut then [⟨j,p,(jB m j p).1.toNat,(jB m j p).2⟩]else []
def Bi(m:aB)(e:Esc)(p:Nat):Nat→List Edge
 | 0=>[]
 | j+1=>Bi m e p j++W5 m e p j
def ah1(m:aB)(e:Esc)(p:Nat):List Edge:=if sfF m e p=true then []else Bi m e p m.roads.length
def B0(m:aB)(e:Esc):Nat→List Edge
 | 0=>[]
 | i+1=>B0 m e i++ah1 m e i
def uR(e:Esc)(x:Edge):Bool:= !bdF e x.b
def zR(m:aB)(e:Esc)(p:Nat):Bool:=sfF m e p&& !bdF e p
def S3(m:aB)(e:Esc)(p:Nat):Lab:=if zR m e p=true then⟨0,0⟩else⟨nvr,0⟩
def GJ(m:aB)(e:Esc)(j:Nat):List Lab:=(List.range j).map (S3 m e)
theorem B1(m:aB)(e:Esc)(j:Nat):(GJ m e j).length=j:=by simp[GJ]
theorem RH(m:aB)(e:Esc)(j:Nat):GJ m e (j+1)=GJ m e j++[S3 m e j]:=by
 unfold GJ;rw[List.range_succ,List.map_append];rfl
theorem wq(m:aB)(e:Esc){n p:Nat}(hp:p<n):nth (GJ m e n) p=S3 m e p:=by
 refine bC ?_
 unfold GJ
 rw[aLn,aLp hp]
 rfl
theorem wu{m:aB}(hm:m.ok){j p:Nat}(hj:j<m.roads.length)(hp:p<m.aa.length)(h:0≤(jB m j p).2):0≤(jB m j p).1∧(jB m j p).1<m.aa.length∧1≤(jB m j p).2∧(jB m j p).2≤500001:=by
 obtain⟨f0,f1,t0,t1, -, -, -, -, -, -, -, -, -, -, -⟩:=hm.rs _ (ai hj)
 have s1:=lM hm j hj false
 have s2:=lM hm j hj true
 unfold jB at*
 split
 · rename_i hc
   rw[if_pos hc]at h
   simp only at h ⊢
   omega
 · rename_i hc
   rw[if_neg hc]at h
   split
   · rename_i hd
     rw[if_pos hd]at h
     simp only at h ⊢
     omega
   · rename_i hd
     rw[if_neg hd]at h
     simp only at h
     omega
theorem FU{m:aB}(hm:m.ok)(e:Esc){p:Nat}(hp:p<m.aa.length):∀j,j≤m.roads.length→∀x∈Bi m e p j,x.ok m.aa.length∧x.a=p
 | 0,_=>by simp[Bi]
 | j+1,hj=>by
   intro x hx
   rw[Bi,List.mem_append]at hx
   rcases hx with hx | hx
   · exact FU hm e hp j (by omega) x hx
   · unfold W5 at hx
     split at hx
     · rename_i hc
       rw[List.mem_singleton]at hx
       subst hx
       have:=wu hm (by omega) hp hc.1
       exact⟨⟨hp,by simp only;omega,by simp only;omega,by simp only;omega⟩,rfl⟩
     · cases hx
theorem Di{m:aB}(hm:m.ok)(e:Esc):∀i,i≤m.aa.length→∀x∈B0 m e i,x.ok m.aa.length∧sfF m e x.a=false
 | 0,_=>by simp[B0]
 | i+1,hi=>by
   intro x hx
   rw[B0,List.mem_append]at hx
   rcases hx with hx | hx
   · exact Di hm e i (by omega) x hx
   · unfold ah1 at hx
     split at hx
     · cases hx
     · rename_i hc
       obtain⟨h1,h2⟩:=FU hm e (by omega) _ (aLs _) x hx
       exact⟨h1,by rw[h2];simpa using hc⟩
abbrev zw(m:aB)(e:Esc)(L:List Lab):aq:=[.box (ae m),.box (dZ e),NL L]
theorem afR{m:aB}(hm:m.ok){e:Esc}(he:e.ok m)(z0 z1 z4 z7 z8 z9 z10 z11 z12 z13:D):
 exS aD K.p4 ⟨[z0,z1,.bp 0 0,.bp 1 0,z4,.ref 2 0 0,I 0,z7,z8,z9,z10,z11,z12,z13],zw m e []⟩=
  some (.exit 0,⟨[.und,.und,.bp 0 0,.bp 1 0,.und,.ref 2 0 m.aa.length,I m.aa.length,.und,.und,.und,.und,.und,.und,.und],zw m e (GJ m e m.aa.length)⟩):=by
 have np:=hm.np
 have key:exS aD K.p4 ⟨[z0,z1,.bp 0 0,.bp 1 0,z4,.ref 2 0 0,I 0,z7,z8,z9,z10,z11,z12,z13],zw m e []⟩=
  some (.exit 0,⟨[.und,.und,.bp 0 0,.bp 1 0,.und,.ref 2 0 (GJ m e m.aa.length).length,I m.aa.length,.und,.und,.und,.und,.und,.und,.und],zw m e (GJ m e m.aa.length)⟩):=by
  refine bk (fun j=>⟨[.und,.und,.bp 0 0,.bp 1 0,.und,.ref 2 0 (GJ m e j).length,I j,.und,.und,.und,.und,.und,.und,.und],zw m e (GJ m e j)⟩) m.aa.length (by simp only[go_sem];rfl) ?_ ?_ (by simp)
  · intro j hj
    rw[RH]
    have ln:=B1 m e j
    have sf:=tQ hm (e:=e) (by have:=he.sl hm;omega) j hj
    have hb:=mI e.bad j (by have:=he.bl hm;omega)
    unfold S3 zR bdF
    generalize GJ m e j=L at*
    generalize sfF m e j=c1 at*
    generalize decide ((j:Int)∈e.bad)=c2 at*
    obtain⟨aa,roads⟩:=m
    obtain⟨safe,bad,shut,bj⟩:=e
    simp only[ae,dZ,zw]at*
    cases c1<;>cases c2
    all_goals
     simp(disch:=omega)only[go_sem,K.oG,↓reduceIte,sf,hb,Bool.not_true,Bool.not_false,Bool.and_true,Bool.and_false,Bool.false_and,Bool.true_and,aLv,List.length_singleton,reduceAdd,reduceSub]
     simp only[NL,List.map_append,List.map_cons,List.map_nil]
  · have ln:=B1 m e m.aa.length
    generalize GJ m e m.aa.length=L at*
    obtain⟨aa,roads⟩:=m
    obtain⟨safe,bad,shut,bj⟩:=e
    simp only[ae,dZ,zw]at*
    simp(disch:=omega)only[go_sem,K.oG,↓reduceIte,reduceAdd,reduceSub]
 rw[B1]at key
 exact key
theorem vF(F:Int)(u:Edge→Bool)(s:List Lab×Bool):DD F u ([]:List Edge) s=s:=UA F u s
theorem afS{m:aB}(hm:m.ok){e:Esc}(he:e.ok m)(p:Nat)(hp:p<m.aa.length)(L:List Lab)(hL:DN nvr m.aa.length L)(c:Bool)(z0 z1 z4 z6 z7 z11 z12 z13:D):
 exS aD K.vv ⟨[z0,z1,.bp 0 0,.bp 1 0,z4,.ref 2 0 m.aa.length,z6,z7,B c,I p,I 0,z11,z12,z13],zw m e L⟩=
  some (.exit 6,⟨[.und,.und,.bp 0 0,.bp 1 0,.und,.ref 2 0 m.aa.length,.und,.und,B (DD nvr (uR e) (Bi m e p m.roads.length) (L,c)).2,I p,I m.roads.length,.und,.und,.und],zw m e (DD nvr (uR e) (Bi m e p m.roads.length) (L,c)).1⟩):=by
 have np:=hm.np
 have nr:=hm.nr
 refine bk (fun j=>⟨[.und,.und,.bp 0 0,.bp 1 0,.und,.ref 2 0 m.aa.length,.und,.und,B (DD nvr (uR e) (Bi m e p j) (L,c)).2,I p,I j,.und,.und,.und],zw m e (DD nvr (uR e) (Bi m e p j) (L,c)).1⟩) m.roads.length (by simp only[go_sem,Bi,vF]) ?_ ?_ (by simp)
 · intro j hj
   rw[Bi,L8]
   have li:=Rm (u:=uR e) (E:=Bi m e p j) (fun x hx=>(FU hm e hp j (by omega) x hx).1) (s:=(L,c)) hL
   generalize hM:DD nvr (uR e) (Bi m e p j) (L,c)=S at*
   obtain⟨M,d⟩:=S
   clear hM
   simp only at li ⊢
   have ot:=vD hm j hj p hp
   have oo:=wu hm hj hp
   have hh:=mI e.shut j (by have:=he.hl hm;omega)
   unfold W5
   generalize jB m j p=o at*
   obtain⟨q,t⟩:=o
   simp only at*
   have hb:=mI e.bad q (by have:=he.bl hm;omega)
   by_cases c1:0≤t
   · obtain⟨q0,q1,t1,t2⟩:=oo c1
     obtain⟨k,rfl⟩:=Int.eq_ofNat_of_zero_le q0
     by_cases c2:(j:Int)∈e.shut
     · rw[if_neg (fun h=>h.2 c2),vF]
       rw[decide_eq_true c2]at hh
       obtain⟨aa,roads⟩:=m
       obtain⟨safe,bad,shut,bj⟩:=e
       simp only[ae,dZ,zw]at*
       simp(disch:=omega)only[go_sem,K.fy,↓reduceIte,ot,hh,c1,reduceAdd,reduceSub]
     · rw[if_pos ⟨c1,c2⟩,UB]
       rw[decide_eq_false c2]at hh
       have hk:k<m.aa.length:=by omega
       have q1:=li.t0 k hk
       have q2:=li.t1 k hk
       have q3:=li.r0 k hk
       have q4:=li.r1 k hk
       have ml:=li.l
       have bt:=NK ⟨(nth M k).t+t,(nth M k).r+1⟩ (nth M p)
       have nv:nvr=1099511627776:=rfl
       simp only[Int.toNat_natCast]
       have rf:OI nvr (uR e) M ⟨j,p,k,t⟩=if GH nvr (uR e) M ⟨j,p,k,t⟩=true then M.set p ⟨(nth M k).t+t,(nth M k).r+1⟩else M:=rfl
       have rc:GH nvr (uR e) M ⟨j,p,k,t⟩=(!decide ((k:Int)∈e.bad)&&decide ((nth M k).t<nvr)&&oE ⟨(nth M k).t+t,(nth M k).r+1⟩ (nth M p)):=rfl
       rw[rf]
       clear rf
       generalize GH nvr (uR e) M ⟨j,p,k,t⟩=r at*
       generalize hx:nth M p=x at*
       generalize hy:nth M k=y at*
       obtain⟨xt,xr⟩:=x
       obtain⟨yt,yr⟩:=y
       simp only at*
       have e1:(M.map Lab.e)[p]?=some (Lab.e ⟨xt,xr⟩):=by rw[← hx];exact b8 _ (by omega)
       generalize oE ⟨yt+t,yr+1⟩ ⟨xt,xr⟩=lv at*
       by_cases c3:(k:Int)∈e.bad
       · rw[decide_eq_true c3]at hb rc
         simp only[Bool.not_true,Bool.false_and]at rc
         subst rc
         obtain⟨aa,roads⟩:=m
         obtain⟨safe,bad,shut,bj⟩:=e
         simp only[ae,dZ,zw]at*
         simp(disch:=omega)only[go_sem,K.fy,↓reduceIte,ot,hh,hb,c1,Bool.or_false,aLt,reduceAdd,reduceSub]
       · rw[decide_eq_false c3]at hb rc
         by_cases c4:yt<1099511627776
         · rw[decide_eq_true (show yt<nvr from c4)]at rc
           simp only[Bool.not_false,Bool.true_and]at rc
           subst rc
           obtain⟨aa,roads⟩:=m
           obtain⟨safe,bad,shut,bj⟩:=e
           simp only[ae,dZ,zw]at*
           cases r with
           | true=>
             simp(disch:=omega)only[go_sem,K.fy,↓reduceIte,ot,hh,hb,bt,c1,c4,hx,hy,e1,Bool.or_true,Kj,reduceAdd,reduceSub]
           | false=>
             simp(disch:=omega)only[go_sem,K.fy,↓reduceIte,ot,hh,hb,bt,c1,c4,hx,hy,e1,Bool.or_false,aLt,reduceAdd,reduceSub]
         · rw[decide_eq_false (show ¬yt<nvr from c4)]at rc
           simp only[Bool.not_false,Bool.and_false,Bool.false_and]at rc
           subst rc
           obtain⟨aa,roads⟩:=m
           obtain⟨safe,bad,shut,bj⟩:=e
           simp only[ae,dZ,zw]at*
           simp(disch:=omega)only[go_sem,K.fy,↓reduceIte,ot,hh,hb,c1,c4,hx,hy,Bool.or_false,aLt,reduceAdd,reduceSub]
   · rw[if_neg (fun h=>c1 h.1),vF]
     obtain⟨aa,roads⟩:=m
     obtain⟨safe,bad,shut,bj⟩:=e
     simp only[ae,dZ,zw]at*
     simp(disch:=omega)only[go_sem,K.fy,↓reduceIte,ot,c1,reduceAdd,reduceSub]
 · generalize DD nvr (uR e) (Bi m e p m.roads.length) (L,c)=S at*
   obtain⟨aa,roads⟩:=m
   obtain⟨safe,bad,shut,bj⟩:=e
   simp only[ae,dZ,zw]at*
   simp(disch:=omega)only[go_sem,K.fy,↓reduceIte,reduceAdd,reduceSub]
theorem afT{m:aB}(hm:m.ok){e:Esc}(he:e.ok m)(L:List Lab)(hL:DN nvr m.aa.length L)(z0 z1 z4 z6 z7 z10 z11 z12 z13:D):
 exS aD K.vw ⟨[z0,z1,.bp 0 0,.bp 1 0,z4,.ref 2 0 m.aa.length,z6,z7,B false,I 0,z10,z11,z12,z13],zw m e L⟩=
  some (.exit 4,⟨[.und,.und,.bp 0 0,.bp 1 0,.und,.ref 2 0 m.aa.length,.und,.und,B (DD nvr (uR e) (B0 m e m.aa.length) (L,false)).2,I m.aa.length,.und,.und,.und,.und],zw m e (DD nvr (uR e) (B0 m e m.aa.length) (L,false)).1⟩):=by
 have np:=hm.np
 refine bk (fun j=>⟨[.und,.und,.bp 0 0,.bp 1 0,.und,.ref 2 0 m.aa.length,.und,.und,B (DD nvr (uR e) (B0 m e j) (L,false)).2,I j,.und,.und,.und,.und],zw m e (DD nvr (uR e) (B0 m e j) (L,false)).1⟩) m.aa.length (by simp only[go_sem,B0,vF]) ?_ ?_ (by simp)
 · intro j hj
   rw[B0,L8]
   have li:=Rm (u:=uR e) (E:=B0 m e j) (fun x hx=>(Di hm e j (by omega) x hx).1) (s:=(L,false)) hL
   generalize hM:DD nvr (uR e) (B0 m e j) (L,false)=S at*
   obtain⟨M,d⟩:=S
   clear hM
   simp only at li ⊢
   have sf:=tQ hm (e:=e) (by have:=he.sl hm;omega) j hj
   have l4:=afS hm he j hj M li d
   have ml:=li.l
   unfold ah1
   generalize sfF m e j=c at*
   cases c with
   | true=>
     rw[if_pos rfl,vF]
     clear l4
     obtain⟨aa,roads⟩:=m
     obtain⟨safe,bad,shut,bj⟩:=e
     simp only[ae,dZ,zw]at*
     simp(disch:=omega)only[go_sem,K.lL,↓reduceIte,sf,reduceAdd,reduceSub]
   | false=>
     rw[if_neg (by simp)]
     have lf:=Rm (u:=uR e) (E:=Bi m e j m.roads.length) (fun x hx=>(FU hm e hj _ (aLs _) x hx).1) (s:=(M,d)) li
     have fl:=lf.l
     generalize DD nvr (uR e) (Bi m e j m.roads.length) (M,d)=Q at*
     obtain⟨Q1,Q2⟩:=Q
     obtain⟨aa,roads⟩:=m
     obtain⟨safe,bad,shut,bj⟩:=e
     simp only[ae,dZ,zw]at*
     simp(disch:=omega)only[go_sem,K.lL,↓reduceIte,sf,l4,reduceAdd,reduceSub]
 · generalize DD nvr (uR e) (B0 m e m.aa.length) (L,false)=S at*
   obtain⟨aa,roads⟩:=m
   obtain⟨safe,bad,shut,bj⟩:=e
   simp only[ae,dZ,zw]at*
   simp(disch:=omega)only[go_sem,K.lL,↓reduceIte,reduceAdd,reduceSub]
theorem W6(m:aB)(e:Esc)(n:Nat):DN nvr n (GJ m e n) where
 l:=B1 m e n
 t0:=fun p hp=>by rw[wq m e hp];unfold S3;split<;>simp
 t1:=fun p hp=>by rw[wq m e hp];unfold S3;split<;>simp
 r0:=fun p hp=>by rw[wq m e hp];unfold S3;split<;>simp
 r1:=fun p hp=>by rw[wq m e hp];unfold S3;split<;>simp
def zL(m:aB)(e:Esc):List Lab:=L5 nvr (uR e) (B0 m e m.aa.length) (GJ m e m.aa.length)
theorem afU{m:aB}(hm:m.ok){e:Esc}(he:e.ok m)(z0 z1 z4 z6 z7 z9 z10 z11 z12 z13:D):
 exS aD K.vz ⟨[z0,z1,.bp 0 0,.bp 1 0,z4,.ref 2 0 m.aa.length,z6,z7,B true,z9,z10,z11,z12,z13],zw m e (GJ m e m.aa.length)⟩=
  some (.exit 2,⟨[.und,.und,.bp 0 0,.bp 1 0,.und,.ref 2 0 m.aa.length,.und,.und,B false,.und,.und,.und,.und,.und],zw m e (zL m e)⟩):=by
 have ek:=Di hm e m.aa.length (aLs _)
 refine(Ag (fun L c=>⟨[.und,.und,.bp 0 0,.bp 1 0,.und,.ref 2 0 m.aa.length,.und,.und,B c,.und,.und,.und,.und,.und],zw m e L⟩)
  (fun L=>(.exit 2,⟨[.und,.und,.bp 0 0,.bp 1 0,.und,.ref 2 0 m.aa.length,.und,.und,B false,.und,.und,.und,.und,.und],zw m e L⟩))
  (fun L=>tC nvr (uR e) (B0 m e m.aa.length) L false (B0 m e m.aa.length).length) (DN nvr m.aa.length) (SX nvr) ?_ ?_ ?_ _ (W6 m e _) (by simp only[go_sem])).1
 · intro L hL
   have h:=Bb (fun x hx=>(ek x hx).1) hL (u:=uR e) (B0 m e m.aa.length).length (aLs _)
   exact⟨h.1,h.2.2.1⟩
 · intro L hL
   have l3:=afT hm he L hL
   have ln:=hL.l
   have h:=(Bb (fun x hx=>(ek x hx).1) hL (u:=uR e) (B0 m e m.aa.length).length (aLs _)).1.l
   unfold DD at l3
   generalize tC nvr (uR e) (B0 m e m.aa.length) L false (B0 m e m.aa.length).length=Q at*
   obtain⟨aa,roads⟩:=m
   obtain⟨safe,bad,shut,bj⟩:=e
   simp only[ae,dZ,zw]at*
   simp(disch:=omega)only[go_sem,K.oH,↓reduceIte,l3,reduceAdd,reduceSub]
 · intro L hL
   refine⟨?_,by simp⟩
   obtain⟨aa,roads⟩:=m
   obtain⟨safe,bad,shut,bj⟩:=e
   simp only[ae,dZ,zw]at*
   simp(disch:=omega)only[go_sem,K.oH,↓reduceIte,reduceAdd,reduceSub]
theorem Mc{m:aB}(hm:m.ok){e:Esc}:L4 nvr m.aa.length (B0 m e m.aa.length) (uR e) (zR m e) (zL m e):=by
 have ek:=Di hm e m.aa.length (aLs _)
 refine L6 (fun x hx=>(ek x hx).1) (fun x hx _=>by unfold zR;rw[(ek x hx).2];rfl) ⟨W6 m e _,?_,?_⟩
 · intro p hp hz
   rw[wq m e hp]
   unfold S3
   rw[if_pos hz]
 · intro p hp hf
   left
   rw[wq m e hp]at hf
   unfold S3 at hf
   split at hf
   · assumption
   · simp at hf
theorem RI{m:aB}(hm:m.ok){e:Esc}(he:e.ok m):aD 0 N.gZ [.t m.e,.t e.e] []=some (.t (.sl ((zL m e).map Lab.e)),[]):=by
 refine ao K.rq rfl ?_
 have l1:=afR hm he
 have l2:=afU hm he
 have ln:=(Mc hm (e:=e)).l
 generalize zL m e=L at*
 generalize GJ m e m.aa.length=L0 at*
 obtain⟨aa,roads⟩:=m
 obtain⟨safe,bad,shut,bj⟩:=e
 simp only[ae,dZ,zw,NL,List.map_nil]at*
 simp(disch:=omega)only[go_sem,K.gZ,↓reduceIte,l1,l2,reduceAdd,reduceSub]
theorem U5{m:aB}(hm:m.ok)(e:Esc){k:Nat}(hk:k<m.roads.length)(p:Nat):(AB m e k).filter (fun x=>decide (x.a=p))=W5 m e p k:=by
 obtain⟨f0,f1,t0,t1,ne, -, -, -, -, -, -, -, -, -, -⟩:=hm.rs _ (ai hk)
 unfold AB W5 jB
 by_cases c:(k:Int)∈e.shut
 · rw[if_pos c,if_neg (fun h=>h.2 c)];rfl
 · rw[if_neg c,List.filter_append]
   by_cases a1:(nth m.roads k).frm=p
   · have a2:¬(nth m.roads k).to=p:=fun h=>ne (by rw[a1,h])
     have b1:(nth m.roads k).frm.toNat=p:=by omega
     have b2:¬(nth m.roads k).to.toNat=p:=by omega
     rw[if_pos a1]
     have e2:(if 0≤kI m k true then [(⟨k,(nth m.roads k).to.toNat,(nth m.roads k).frm.toNat,kI m k true⟩:Edge)]else []).filter (fun x=>decide (x.a=p))=[]:=by
      split
      · simp[b2]
      · rfl
     rw[e2,List.append_nil]
     by_cases s:0≤kI m k false
     · rw[if_pos s,if_pos ⟨s,c⟩];simp[b1]
     · rw[if_neg s,if_neg (fun h=>s h.1)];rfl
   · have b1:¬(nth m.roads k).frm.toNat=p:=by omega
     rw[if_neg a1]
     have e2:(if 0≤kI m k false then [(⟨k,(nth m.roads k).frm.toNat,(nth m.roads k).to.toNat,kI m k false⟩:Edge)]else []).filter (fun x=>decide (x.a=p))=[]:=by
      split
      · simp[b1]
      · rfl
     rw[e2,List.nil_append]
     by_cases a2:(nth m.roads k).to=p
     · have b2:(nth m.roads k).to.toNat=p:=by omega
       rw[if_pos a2]
       by_cases s:0≤kI m k true
       · rw[if_pos s,if_pos ⟨s,c⟩];simp[b2]
       · rw[if_neg s,if_neg (fun h=>s h.1)];rfl
     · have b2:¬(nth m.roads k).to.toNat=p:=by omega
       rw[if_neg a2]
       split<;>simp[b2]
theorem It{m:aB}(hm:m.ok)(e:Esc)(p:Nat):∀j,j≤m.roads.length→(m8 m e j).filter (fun x=>decide (x.a=p))=Bi m e p j
 | 0,_=>rfl
 | j+1,hj=>by
   rw[m8,List.filter_append,It hm e p j (by omega),U5 hm e (by omega) p]
   rfl
theorem Md{m:aB}(hm:m.ok)(e:Esc)(p:Nat):(dP m e).filter (fun x=>decide (x.a=p))=Bi m e p m.roads.length:=It hm e p _ (aLs _)
theorem FV(m:aB)(e:Esc)(x:Edge):∀n,x∈B0 m e n↔∃p,p<n∧sfF m e p=false∧x∈Bi m e p m.roads.length
 | 0=>by simp[B0]
 | n+1=>by
   rw[B0,List.mem_append,FV m e x n]
   unfold ah1
   constructor
   · rintro (⟨p,h1,h2,h3⟩ | h)
     · exact⟨p,by omega,h2,h3⟩
     · split at h
       · cases h
       · rename_i hc
         exact⟨n,by omega,by simpa using hc,h⟩
   · rintro ⟨p,h1,h2,h3⟩
     by_cases c:p=n
     · subst c
       right
       rw[if_neg (by simp[h2])]
       exact h3
     · exact .inl ⟨p,by omega,h2,h3⟩
theorem zx{m:aB}(hm:m.ok)(e:Esc)(p:Nat)(x:Edge):x∈Bi m e p m.roads.length↔x∈dP m e∧x.a=p:=by
 rw[← Md hm e p,List.mem_filter,decide_eq_true_eq]
def adg(m:aB)(e:Esc)(p:Nat):Prop:=¬(sfF m e p=true∧bdF e p=true)
theorem Iu{m:aB}(hm:m.ok){e:Esc}(he:e.ok m):∀p,p<m.aa.length→adg m e p→
 ((nth (iV (dP m e) (sfL m e) (bdL m e) m.aa.length) p).t<km↔(nth (zL m e) p).t<nvr)∧((nth (iV (dP m e) (sfL m e) (bdL m e) m.aa.length) p).t<km→nth (iV (dP m e) (sfL m e) (bdL m e) m.aa.length) p=nth (zL m e) p):=by
 have np:=hm.np
 refine afK (Az (cY hm e)) (Mc hm (e:=e)) (cY hm e) (fun x hx=>(Di hm e _ (aLs _) x hx).1) (adg m e) ?_ ?_ ?_ ?_ ?_ (by show _<(1152921504606846976:Int);omega) (by show _<(1099511627776:Int);omega)
 · intro x hx hu
   have xo:=cY hm e x hx
   unfold uB at hu
   rw[p7 he xo.1,ye he xo.2.1]at hu
   simp only[aLr,Bool.not_eq_true']at hu
   refine⟨x,(FV m e x _).2 ⟨x.a,xo.1,hu.1,(zx hm e x.a x).2 ⟨hx,rfl⟩⟩,?_,rfl,rfl,rfl⟩
   unfold uR
   rw[hu.2]
   rfl
 · intro x hx hu
   obtain⟨p,h1,h2,h3⟩:=(FV m e x _).1 hx
   obtain⟨h4,h5⟩:=(zx hm e p x).1 h3
   have xo:=cY hm e x h4
   refine⟨x,h4,?_,rfl,rfl,rfl⟩
   unfold uB
   unfold uR at hu
   rw[p7 he xo.1,ye he xo.2.1,h5,h2]
   simpa using hu
 · intro p hp hr
   unfold zR rz
   rw[p7 he hp]
   unfold adg at hr
   cases h1:sfF m e p<;>cases h2:bdF e p<;>simp_all
 · intro x hx hu
   have xo:=cY hm e x hx
   unfold uB at hu
   rw[ye he xo.2.1]at hu
   simp only[aLr,Bool.not_eq_true']at hu
   intro h
   rw[hu.2]at h
   exact absurd h.2 (by simp)
 · intro x hx hu
   unfold uR at hu
   intro h
   rw[h.2]at hu
   exact absurd hu (by simp)
def p8(m:aB)(p j:Nat):Edge:=⟨j,p,(jB m j p).1.toNat,(jB m j p).2⟩
def NY(m:aB)(e:Esc)(L:List Lab)(p j:Nat):Bool:=
 decide (0≤(jB m j p).2∧(j:Int)∉e.shut)&&(uR e (p8 m p j)&&decide ((nth L (p8 m p j).b).t<nvr)&&decide ((nth L (p8 m p j).b).t+(p8 m p j).t=(nth L p).t∧(nth L (p8 m p j).b).r+1=(nth L p).r))
def Me(m:aB)(e:Esc)(L:List Lab)(p:Nat):Option Nat:=(List.range m.roads.length).find? (NY m e L p)
theorem Iv(m:aB)(e:Esc)(p:Nat)(Q:Edge→Bool):∀j,(Bi m e p j).find? Q=((List.range j).find? (fun i=>decide (0≤(jB m i p).2∧(i:Int)∉e.shut)&&Q (p8 m p i))).map (p8 m p)
 | 0=>rfl
 | j+1=>by
   rw[Bi,List.find?_append,Iv m e p Q j,List.range_succ,List.find?_append]
   cases (List.range j).find? (fun i=>decide (0≤(jB m i p).2∧(i:Int)∉e.shut)&&Q (p8 m p i))with
   | some i=>rfl
   | none=>
     simp only[Option.map_none,Option.none_or]
     unfold W5
     by_cases c:0≤(jB m j p).2∧(j:Int)∉e.shut
     · rw[if_pos c]
       show List.find? Q [p8 m p j]=_
       cases hq:Q (p8 m p j)<;>simp[hq,c]
     · rw[if_neg c]
       simp[c]
theorem Iw(u:Edge→Bool)(E:List Edge)(L:List Lab)(p:Nat):Ij u E L p=(E.filter (fun x=>decide (x.a=p))).find? (vn u L p):=by
 unfold Ij
 rw[List.find?_filter]
 congr 1
 funext x
 unfold vn
 cases decide (x.a=p)<;>simp
theorem Dj{α:Type}{p q:α→Bool}:∀ {l:List α},(∀x∈l,p x=q x)→l.find? p=l.find? q
 | [],_=>rfl
 | x::l,h=>by
   simp only[List.find?_cons,h x (by simp)]
   rw[Dj (l:=l) fun y hy=>h y (by simp[hy])]
theorem NZ{m:aB}(hm:m.ok){e:Esc}(he:e.ok m){p:Nat}(hp:p<m.aa.length)(hz:sfF m e p=false)(hf:(nth (iV (dP m e) (sfL m e) (bdL m e) m.aa.length) p).t<km):
 Ij (uB (sfL m e) (bdL m e)) (dP m e) (iV (dP m e) (sfL m e) (bdL m e) m.aa.length) p=(Me m e (zL m e) p).map (p8 m p):=by
 have rp:adg m e p:=fun h=>by rw[hz]at h;exact absurd h.1 (by simp)
 have le:=Iu hm he
 have lp:=(le p hp rp).2 hf
 have z1:=Az (sf:=sfL m e) (bd:=bdL m e) (cY hm e)
 have tm:=z1.time (cY hm e) hp hf
 have np:=hm.np
 rw[Iw,Md hm e p,Iv]
 unfold Me
 congr 1
 refine Dj fun j hj=>?_
 have hj:=aLu.1 hj
 unfold NY
 by_cases c:0≤(jB m j p).2∧(j:Int)∉e.shut
 · rw[decide_eq_true c,Bool.true_and,Bool.true_and]
   have oo:=wu hm hj hp c.1
   have eb:(p8 m p j).b<m.aa.length:=by unfold p8;simp only;omega
   have ea:(p8 m p j).a=p:=rfl
   have et:1≤(p8 m p j).t:=oo.2.2.1
   generalize p8 m p j=x at*
   unfold vn uB
   rw[ea,decide_eq_true rfl,Bool.true_and,p7 he hp,hz,Bool.not_false,Bool.true_and,ye he eb]
   unfold uR
   cases hb:bdF e x.b with
   | true=>rfl
   | false=>
     rw[Bool.not_false,Bool.true_and,Bool.true_and]
     have rb:adg m e x.b:=fun h=>by rw[hb]at h;exact absurd h.2 (by simp)
     obtain⟨l1,l2⟩:=le x.b eb rb
     rw[← lp]
     generalize nth (iV (dP m e) (sfL m e) (bdL m e) m.aa.length) p=y at*
     have nb:nth (zL m e) x.b=nth (zL m e) x.b:=rfl
     generalize nth (iV (dP m e) (sfL m e) (bdL m e) m.aa.length) x.b=w at*
     generalize nth (zL m e) x.b=v at*
     obtain⟨yt,yr⟩:=y
     obtain⟨wt,wr⟩:=w
     obtain⟨vt,vr⟩:=v
     simp only[Lab.mk.injEq]at*
     have fc:km=1152921504606846976:=rfl
     rw[← Bool.decide_and]
     refine decide_eq_decide.2 ⟨fun h=>?_,fun h=>?_⟩
     · have hw:wt<km:=by omega
       have:=l2 hw
       have:=l1.1 hw
       omega
     · have hw:wt<km:=l1.2 h.1
       have:=l2 hw
       omega
 · rw[decide_eq_false c,Bool.false_and,Bool.false_and]
abbrev rbH(m:aB)(e:Esc)(W:List Int):aq:=[.box (ae m),.box (dZ e),kF W]
theorem akl{m:aB}(hm:m.ok){e:Esc}(he:e.ok m)(L:List Lab)(hL:DN nvr m.aa.length L)(p0 p:Nat)(hp:p<m.aa.length)(W:List Int)(hW:W.length≤100000000)(J:Nat)(hJ:Me m e L p=some J)(z0 z1 z5 z6 z7 z12 z13:D):
 ∃x y,exS aD K.zq ⟨[z0,z1,I p0,.bp 0 0,.bp 1 0,z5,z6,z7,.t (.sl (L.map Lab.e)),.ref 2 0 W.length,I p,I 0,z12,z13],rbH m e W⟩=
  some (.exit 2,⟨[.und,.und,I p0,.bp 0 0,.bp 1 0,.und,.und,.und,.t (.sl (L.map Lab.e)),.ref 2 0 (W.length+1),I (p8 m p J).b,I J,x,y],rbH m e (W++[(J:Int)])⟩):=by
 have np:=hm.np
 have nr:=hm.nr
 have ml:=hL.l
 have J1:J<m.roads.length:=aLu.1 (List.mem_of_find?_eq_some hJ)
 have J2:NY m e L p J=true:=List.find?_some hJ
 have J3:∀j,j<J→NY m e L p j=false:=fun j hj=>by
  have:=(List.find?_range_eq_some.1 hJ).2.2 j hj
  simpa using this
 have key:=zf (vs:=[z0,z1,I p0,.bp 0 0,.bp 1 0,z5,z6,z7,.t (.sl (L.map Lab.e)),.ref 2 0 W.length,I p,I 0,z12,z13]) (H:=rbH m e W) (c:=K.gn) (gc:=true) (dead:=[0,1,5,6,7,12,13])
  (fun j st=>st=⟨[.und,.und,I p0,.bp 0 0,.bp 1 0,.und,.und,.und,.t (.sl (L.map Lab.e)),.ref 2 0 W.length,I p,I j,.und,.und],rbH m e W⟩) J
  (fun q=>∃x y,q=(.exit 2,⟨[.und,.und,I p0,.bp 0 0,.bp 1 0,.und,.und,.und,.t (.sl (L.map Lab.e)),.ref 2 0 (W.length+1),I (p8 m p J).b,I J,x,y],rbH m e (W++[(J:Int)])⟩)) (by simp only[go_sem]) ?_ ?_
 · obtain⟨q,h1,x,y,rfl⟩:=key
   exact⟨x,y,h1⟩
 · rintro j st hj rfl
   refine⟨_,?_,rfl⟩
   have hc:=J3 j hj
   have hj:j<m.roads.length:=by omega
   have ot:=vD hm j hj p hp
   have oo:=wu hm hj hp
   have hh:=mI e.shut j (by have:=he.hl hm;omega)
   unfold NY p8 uR bdF at hc
   generalize jB m j p=o at*
   obtain⟨q,t⟩:=o
   simp only at*
   have hb:=mI e.bad q (by have:=he.bl hm;omega)
   have nv:nvr=1099511627776:=rfl
   by_cases c1:0≤t
   · obtain⟨q0,q1,t1,t2⟩:=oo c1
     obtain⟨k,rfl⟩:=Int.eq_ofNat_of_zero_le q0
     by_cases c2:(j:Int)∈e.shut
     · rw[decide_eq_true c2]at hh
       clear hc oo
       obtain⟨aa,roads⟩:=m
       obtain⟨safe,bad,shut,bj⟩:=e
       simp only[ae,dZ,rbH]at*
       simp(disch:=omega)only[go_sem,K.gn,↓reduceIte,ot,hh,c1,reduceAdd,reduceSub]
     · rw[decide_eq_false c2]at hh
       have hk:k<m.aa.length:=by omega
       have q1:=hL.t0 k hk
       have q2:=hL.t1 k hk
       have q3:=hL.r0 k hk
       have q4:=hL.r1 k hk
       rw[decide_eq_true (⟨c1,c2⟩:0≤t∧(j:Int)∉e.shut),Bool.true_and,Int.toNat_natCast]at hc
       generalize hx:nth L p=x at*
       generalize hy:nth L k=y at*
       obtain⟨xt,xr⟩:=x
       obtain⟨yt,yr⟩:=y
       simp only at*
       by_cases c3:(k:Int)∈e.bad
       · rw[decide_eq_true c3]at hb
         clear hc oo
         obtain⟨aa,roads⟩:=m
         obtain⟨safe,bad,shut,bj⟩:=e
         simp only[ae,dZ,rbH]at*
         simp(disch:=omega)only[go_sem,K.gn,↓reduceIte,ot,hh,hb,c1,reduceAdd,reduceSub]
       · rw[decide_eq_false c3]at hb hc
         simp only[Bool.not_false,Bool.true_and,Bool.and_eq_false_iff,decide_eq_false_iff_not]at hc
         obtain⟨aa,roads⟩:=m
         obtain⟨safe,bad,shut,bj⟩:=e
         simp only[ae,dZ,rbH]at*
         by_cases c4:yt<1099511627776
         · by_cases c5:yt+t=xt
           · have c6:¬yr+1=xr:=by
              intro h
              rcases hc with hc | hc
              · exact hc c4
              · exact hc ⟨c5,h⟩
             simp(disch:=omega)only[go_sem,K.gn,↓reduceIte,ot,hh,hb,c1,c4,c5,c6,hx,hy,decide_true,decide_false,reduceAdd,reduceSub]
           · simp(disch:=omega)only[go_sem,K.gn,↓reduceIte,ot,hh,hb,c1,c4,c5,hx,hy,decide_true,decide_false,reduceAdd,reduceSub]
         · simp(disch:=omega)only[go_sem,K.gn,↓reduceIte,ot,hh,hb,c1,c4,hx,hy,reduceAdd,reduceSub]
   · clear hc oo
     obtain⟨aa,roads⟩:=m
     obtain⟨safe,bad,shut,bj⟩:=e
     simp only[ae,dZ,rbH]at*
     simp(disch:=omega)only[go_sem,K.gn,↓reduceIte,ot,c1,reduceAdd,reduceSub]
 · rintro st rfl
   refine⟨_,?_,by simp,I (p8 m p J).b,I (p8 m p J).t,rfl⟩
   have ot:=vD hm J J1 p hp
   have oo:=wu hm J1 hp
   have hh:=mI e.shut J (by have:=he.hl hm;omega)
   have nv:nvr=1099511627776:=rfl
   unfold NY p8 uR bdF at J2
   unfold p8
   generalize jB m J p=o at*
   obtain⟨q,t⟩:=o
   simp only at*
   have hb:=mI e.bad q (by have:=he.bl hm;omega)
   simp only[aLr,decide_eq_true_eq,Bool.not_eq_true',decide_eq_false_iff_not]at J2
   obtain⟨⟨c1,c2⟩,⟨c3,c4⟩,c5,c6⟩:=J2
   obtain⟨q0,q1,t1,t2⟩:=oo c1
   obtain⟨k,rfl⟩:=Int.eq_ofNat_of_zero_le q0
   have hk:k<m.aa.length:=by omega
   have q1:=hL.t0 k hk
   have q2:=hL.t1 k hk
   have q3:=hL.r0 k hk
   have q4:=hL.r1 k hk
   rw[Int.toNat_natCast]at*
   rw[decide_eq_false c2]at hh
   rw[decide_eq_false c3]at hb
   generalize hx:nth L p=x at*
   generalize hy:nth L k=y at*
   obtain⟨xt,xr⟩:=x
   obtain⟨yt,yr⟩:=y
   simp only at*
   have c4:yt<1099511627776:=c4
   clear J3 oo
   obtain⟨aa,roads⟩:=m
   obtain⟨safe,bad,shut,bj⟩:=e
   simp only[ae,dZ,rbH]at*
   simp(disch:=omega)only[go_sem,K.gn,↓reduceIte,ot,hh,hb,c1,c4,c5,c6,hx,hy,decide_true,reduceAdd,reduceSub]
   simp only[kF,List.map_append,List.map_cons,List.map_nil]
abbrev rbV(p0:Nat)(L:List Lab)(W:List Int)(p:Nat):List D:=[.und,.und,I p0,.bp 0 0,.bp 1 0,.und,.und,.und,.t (.sl (L.map Lab.e)),.ref 2 0 W.length,I p,.und,.und,.und]
theorem aaH{m:aB}(hm:m.ok){e:Esc}(he:e.ok m)(p0:Nat):∀(k p:Nat) (W:List Int),p<m.aa.length→(nth (iV (dP m e) (sfL m e) (bdL m e) m.aa.length) p).t<km→
 (nth (iV (dP m e) (sfL m e) (bdL m e) m.aa.length) p).r.toNat≤k→W.length+k≤100000000→
 ∃q:Nat,nW true [0,1,5,6,7,11,12,13] (exS aD K.jZ) ⟨rbV p0 (zL m e) W p,rbH m e W⟩=
  some (.exit 0,⟨rbV p0 (zL m e) (W++od (mu (rz (sfL m e)) (uB (sfL m e) (bdL m e)) (dP m e) (iV (dP m e) (sfL m e) (bdL m e) m.aa.length) k p)) q,
   rbH m e (W++od (mu (rz (sfL m e)) (uB (sfL m e) (bdL m e)) (dP m e) (iV (dP m e) (sfL m e) (bdL m e) m.aa.length) k p))⟩):=by
 have hZ:=Az (sf:=sfL m e) (bd:=bdL m e) (cY hm e)
 have hL:=(Mc hm (e:=e)).toDN
 have done:∀(p:Nat) (W:List Int),p<m.aa.length→sfF m e p=true→nW true [0,1,5,6,7,11,12,13] (exS aD K.jZ) ⟨rbV p0 (zL m e) W p,rbH m e W⟩=some (.exit 0,⟨rbV p0 (zL m e) W p,rbH m e W⟩):=by
  intro p W hp hz
  refine eD ?_ (by simp)
  have sf:=tQ hm (e:=e) (by have:=he.sl hm;omega) p hp
  rw[hz]at sf
  generalize zL m e=L at*
  obtain⟨aa,roads⟩:=m
  obtain⟨safe,bad,shut,bj⟩:=e
  simp only[ae,dZ,rbH,rbV]at*
  simp(disch:=omega)only[go_sem,K.jZ,↓reduceIte,sf,Bool.not_true,reduceAdd,reduceSub]
 intro k
 induction k with
 | zero=>
   intro p W hp hf hk hW
   have hz:nth (sfL m e) p=true:=by
    by_cases hz:nth (sfL m e) p=true
    · exact hz
    · obtain⟨x,_,e1,_,_,_,_,e5⟩:=pn hZ (cY hm e) hp hf (by simpa using hz)
      have:=hZ.r0 x.b (cY hm e x e1).2.1
      have:=hZ.r0 p hp
      omega
   refine⟨p,?_⟩
   simp only[mu,od,List.map_nil,List.append_nil]
   exact done p W hp (by rw[← p7 he hp];exact hz)
 | succ k ih=>
   intro p W hp hf hk hW
   by_cases hz:nth (sfL m e) p=true
   · refine⟨p,?_⟩
     have:mu (rz (sfL m e)) (uB (sfL m e) (bdL m e)) (dP m e) (iV (dP m e) (sfL m e) (bdL m e) m.aa.length) (k+1) p=[]:=by unfold mu;rw[if_pos hz]
     rw[this]
     simp only[od,List.map_nil,List.append_nil]
     exact done p W hp (by rw[← p7 he hp];exact hz)
   · obtain⟨x,e0,e1,e2,e3,e4,e5,e6⟩:=pn hZ (cY hm e) hp hf (by simpa using hz)
     have hz2:sfF m e p=false:=by rw[← p7 he hp];simpa using hz
     have br:=hZ.r0 x.b (cY hm e x e1).2.1
     have sfst:=NZ hm he hp hz2 hf
     rw[e0]at sfst
     cases hJ:Me m e (zL m e) p with
     | none=>rw[hJ]at sfst;cases sfst
     | some J=>
       rw[hJ]at sfst
       simp only[aLw,Option.some.injEq]at sfst
       have l2:=akl hm he (zL m e) hL p0 p hp W (by omega) J hJ .und .und .und .und .und .und .und
       have xr:x.r=J:=by rw[sfst];rfl
       obtain⟨q,h⟩:=ih x.b (W++[(x.r:Int)]) (cY hm e x e1).2.1 e4 (by omega) (by simp;omega)
       refine⟨q,?_⟩
       have pe:mu (rz (sfL m e)) (uB (sfL m e) (bdL m e)) (dP m e) (iV (dP m e) (sfL m e) (bdL m e) m.aa.length) (k+1) p=x::mu (rz (sfL m e)) (uB (sfL m e) (bdL m e)) (dP m e) (iV (dP m e) (sfL m e) (bdL m e) m.aa.length) k x.b:=by
        conv=>lhs;unfold mu
        rw[if_neg hz,e0]
       have rd:gE true [0,1,5,6,7,11,12,13] (rbH m e W).length (exS aD K.jZ ⟨rbV p0 (zL m e) W p,rbH m e W⟩)=some ⟨rbV p0 (zL m e) (W++[(x.r:Int)]) x.b,rbH m e (W++[(x.r:Int)])⟩:=by
        have sf:=tQ hm (e:=e) (by have:=he.sl hm;omega) p hp
        rw[hz2]at sf
        rw[← sfst,←xr]at l2
        clear ih h pe sfst
        obtain⟨z1,z2,l2⟩:=l2
        generalize zL m e=L at*
        generalize x.r=r at*
        generalize x.b=b at*
        have wl:(W++[(r:Int)]).length=W.length+1:=by simp
        generalize W++[(r:Int)]=W2 at*
        obtain⟨aa,roads⟩:=m
        obtain⟨safe,bad,shut,bj⟩:=e
        simp only[ae,dZ,rbH,rbV]at*
        simp(disch:=omega)only[go_sem,K.jZ,↓reduceIte,sf,Bool.not_false,l2,reduceAdd,reduceSub]
        rw[wl]
       simpa only[pe,od,List.map_cons,List.append_assoc,List.cons_append,List.nil_append]using fL rd h
def Mf(m:aB)(e:Esc)(p:Nat):D:=
 if sfF m e p=true then .tup [.t (tL []),I 0,B true]
 else if c1E m e p<km then .tup [.t (tL (od (w1E m e p))),I (c1E m e p),B true]else .tup [.t (tL []),I 0,B false]
theorem Mg{m:aB}(hm:m.ok){e:Esc}(he:e.ok m)(p:Nat)(hp:p<m.aa.length):aD 0 N.fk [.t m.e,.t e.e,I p] []=some (Mf m e p,[]):=by
 refine ao K.qx rfl ?_
 have np:=hm.np
 have vd:=tP hm he
 have sf:=tQ hm (e:=e) (by have:=he.sl hm;omega) p hp
 have lb:=RI hm he
 have lz:=Mc hm (e:=e)
 have ml:=lz.l
 have e1:((zL m e).map Lab.e)[p]?=some (nth (zL m e) p).e:=b8 _ (by omega)
 unfold Mf
 cases hz:sfF m e p with
 | true=>
   rw[if_pos rfl]
   rw[hz]at sf
   clear lb lz e1 ml
   obtain⟨aa,roads⟩:=m
   obtain⟨safe,bad,shut,bj⟩:=e
   simp only[ae,dZ,tL,List.map_nil]at*
   simp(disch:=omega)only[go_sem,K.fk,↓reduceIte,vd,sf,Bool.not_true,reduceAdd,reduceSub]
 | false=>
   rw[if_neg (by simp)]
   rw[hz]at sf
   have rp:adg m e p:=fun h=>by rw[hz]at h;exact absurd h.1 (by simp)
   obtain⟨le1,le2⟩:=Iu hm he p hp rp
   have e4:(nth (iV (dP m e) (sfL m e) (bdL m e) m.aa.length) p).t=c1E m e p:=rfl
   by_cases hf:c1E m e p<km
   · rw[if_pos hf]
     have cl:=tR (sf:=sfL m e) (bd:=bdL m e) (cY hm e) np hp hf
     obtain⟨q,lp⟩:=aaH hm he p (nth (iV (dP m e) (sfL m e) (bdL m e) m.aa.length) p).r.toNat p [] hp hf (aLs _) (by simp;omega)
     have w1:mu (rz (sfL m e)) (uB (sfL m e) (bdL m e)) (dP m e) (iV (dP m e) (sfL m e) (bdL m e) m.aa.length) (nth (iV (dP m e) (sfL m e) (bdL m e) m.aa.length) p).r.toNat p=w1E m e p:=rfl
     rw[w1]at lp
     have eq:=le2 hf
     have e5:(nth (zL m e) p).t=c1E m e p:=by rw[← eq];rfl
     have hf2:(nth (zL m e) p).t<1099511627776:=le1.1 hf
     have lp2:∀z0 z1 z5 z6 z7 z11 z12 z13,exS aD K.zr ⟨[z0,z1,I p,.bp 0 0,.bp 1 0,z5,z6,z7,.t (.sl ((zL m e).map Lab.e)),.ref 2 0 0,I p,z11,z12,z13],rbH m e []⟩=_:=fun z0 z1 z5 z6 z7 z11 z12 z13=>uT lp
     rw[e4]at cl
     clear eq le1 le2 w1 lp lz e4 rp
     generalize od (w1E m e p)=R at*
     generalize c1E m e p=t1 at*
     generalize zL m e=L at*
     generalize hx:nth L p=x at*
     obtain⟨xt,xr⟩:=x
     simp only at e5 hf2 e1
     subst e5
     obtain⟨aa,roads⟩:=m
     obtain⟨safe,bad,shut,bj⟩:=e
     simp only[ae,dZ,rbH,rbV]at*
     simp(disch:=omega)only[go_sem,K.fk,↓reduceIte,vd,sf,lb,e1,hf2,hx,Bool.not_true,reduceAdd,reduceSub]
     refine iz (lp2 _ _ _ _ _ _ _ _) ?_
     simp(disch:=omega)only[go_sem,K.fk,↓reduceIte,e1,hx,List.nil_append,reduceAdd,reduceSub]
   · rw[if_neg hf]
     have hf2:¬(nth (zL m e) p).t<1099511627776:=fun h=>hf (le1.2 h)
     clear le1 le2 lz e4 rp
     generalize zL m e=L at*
     generalize hx:nth L p=x at*
     obtain⟨xt,xr⟩:=x
     simp only at hf2 e1
     obtain⟨aa,roads⟩:=m
     obtain⟨safe,bad,shut,bj⟩:=e
     simp only[ae,dZ,tL,List.map_nil]at*
     simp(disch:=omega)only[go_sem,K.fk,↓reduceIte,vd,sf,lb,e1,hf2,hx,Bool.not_true,reduceAdd,reduceSub]
end Go.Ev
namespace Go.Ev
open Go
variable [Lib]
def kN(p:Nat→Bool)(l:List Int)(j:Nat):List Int:=((List.range j).filter p).map (nth l)
theorem Bj(p:Nat→Bool)(l:List Int)(j:Nat):(kN p l j).length≤j:=by
 unfold kN
 rw[List.length_map]
 have:=List.length_filter_le p (List.range j)
 rwa [List.length_range]at this
theorem vG(p:Nat→Bool)(l:List Int)(j:Nat):kN p l (j+1)=kN p l j++(if p j then [nth l j]else []):=by
 unfold kN
 rw[List.range_succ,List.filter_append,List.map_append]
 cases h:p j<;>simp[h]
def kA(p:Nat→Bool)(l:List Int)(j:Nat):List Int:=kN p l j++l.drop (kN p l j).length
theorem zy(p:Nat→Bool)(l:List Int){j:Nat}(hj:j≤l.length):(kA p l j).length=l.length:=by
 unfold kA
 have:=Bj p l j
 rw[aLv,List.length_drop];omega
theorem U6{A B:List Int}{i:Nat}(h:A.length≤i):nth (A++B) i=nth B (i-A.length):=by
 unfold nth
 simp only[aLl,aLh h]
theorem RJ{A:List Int}{k i:Nat}:nth (A.drop k) i=nth A (k+i):=by
 unfold nth
 simp only[aLl,List.getElem?_drop]
theorem Mh(p:Nat→Bool)(l:List Int)(j:Nat){i:Nat}(hi:(kN p l j).length≤i):nth (kA p l j) i=nth l i:=by
 unfold kA
 rw[U6 hi,RJ]
 congr 1
 omega
theorem FW{l:List Int}{k:Nat}(h:k<l.length):l.drop k=nth l k::l.drop (k+1):=by
 rw[List.drop_eq_getElem_cons h]
 congr 1
 have:=cG h
 rw[aLc h]at this
 exact Option.some.inj this
theorem RK(p:Nat→Bool)(l:List Int){j:Nat}(hj:j<l.length)(h:p j=true):(kA p l j).set (kN p l j).length (nth l j)=kA p l (j+1):=by
 unfold kA
 have dl:=Bj p l j
 rw[vG p l j,if_pos h,List.set_append_right _ _ (aLs _),Nat.sub_self,aLv,List.length_singleton,List.append_assoc]
 congr 1
 rw[FW (show(kN p l j).length<l.length by omega)]
 rfl
theorem FX(p:Nat→Bool)(l:List Int){j:Nat}(h:p j=false):kN p l (j+1)=kN p l j∧kA p l (j+1)=kA p l j:=by
 have:kN p l (j+1)=kN p l j:=by rw[vG p l j,h];simp
 unfold kA
 rw[this]
 exact⟨rfl,rfl⟩
theorem RL(p:Nat→Bool)(l:List Int):∀ {j:Nat},j≤l.length→(∀i,i<j→p i=true)→kN p l j=l.take j
 | 0,_,_=>rfl
 | j+1,hj,h=>by
   rw[vG,if_pos (h j (by omega)),RL p l (by omega) (fun i hi=>h i (by omega)),List.take_succ,cG (by omega)]
   rfl
theorem FY(p:Nat→Bool)(l:List Int){i:Nat}(hi:i<l.length)(h:∀k,k<i→p k=true)(hp:p i=false):kA p l (i+1)=l∧(kN p l (i+1)).length=i:=by
 have e:kN p l (i+1)=l.take i:=by
  rw[(FX p l hp).1,RL p l (by omega) h]
 constructor
 · unfold kA
   rw[e,List.length_take,Nat.min_eq_left (by omega),List.take_append_drop]
 · rw[e,List.length_take];omega
theorem afV(p:Nat→Bool)(l:List Int)(j:Nat)(x:Int):x∈kN p l j↔∃i,i<j∧p i=true∧nth l i=x:=by
 unfold kN
 rw[List.mem_map]
 constructor
 · rintro ⟨i,hi,rfl⟩
   rw[List.mem_filter,aLu]at hi
   exact⟨i,hi.1,hi.2,rfl⟩
 · rintro ⟨i,h1,h2,rfl⟩
   exact⟨i,List.mem_filter.2 ⟨aLu.2 h1,h2⟩,rfl⟩
theorem Ix(q:Int→Bool)(l:List Int):kN (fun i=>q (nth l i)) l l.length=l.filter q:=by
 have key:∀j,j≤l.length→kN (fun i=>q (nth l i)) l j=(l.take j).filter q:=by
  intro j
  induction j with
  | zero=>intro _;rfl
  | succ j ih=>
    intro hj
    rw[vG,ih (by omega),List.take_succ,cG (by omega),List.filter_append]
    simp only[Option.toList_some]
    cases h:q (nth l j)<;>simp[h]
 rw[key _ (aLs _),List.take_length]
def gW(l:List Int)(i:Nat):Bool:=decide (i=0)||decide (nth l i≠nth l (i-1))
def Bu(l:List Int):List Int:=kN (gW l) l l.length
theorem W7{l:List Int}(h:l.Pairwise (· ≤ ·)){i j:Nat}(hij:i<j)(hj:j<l.length):nth l i≤nth l j:=by
 have:=List.pairwise_iff_getElem.1 h i j (by omega) hj hij
 have e1:nth l i=l[i]:=bC (aLc (by omega))
 have e2:nth l j=l[j]:=bC (aLc hj)
 omega
theorem U7{l:List Int}(h:l.Pairwise (· ≤ ·))(x:Int):x∈Bu l↔x∈l:=by
 unfold Bu
 rw[afV]
 constructor
 · rintro ⟨i,h1,_,rfl⟩;exact ai h1
 · intro hx
   obtain⟨j,hj⟩:=aLf.1 hx
   have jl:=(aLe.1 hj).1
   have key:∀j,j<l.length→∃i,i<l.length∧gW l i=true∧nth l i=nth l j:=by
    intro j
    induction j with
    | zero=>intro h0;exact⟨0,h0,by simp[gW],rfl⟩
    | succ j ih=>
      intro hj
      by_cases c:nth l (j+1)=nth l j
      · obtain⟨i,h1,h2,h3⟩:=ih (by omega)
        exact⟨i,h1,h2,by rw[h3,c]⟩
      · exact⟨j+1,hj,by unfold gW;simp[c],rfl⟩
   obtain⟨i,h1,h2,h3⟩:=key j jl
   exact⟨i,h1,h2,by rw[h3,bC hj]⟩
theorem aaI{l:List Int}(h:l.Pairwise (· ≤ ·)):(Bu l).Pairwise (· < ·):=by
 unfold Bu kN
 rw[List.pairwise_map]
 have:((List.range l.length).filter (gW l)).Pairwise (fun i j=>i<j∧j<l.length∧gW l j=true):=by
  rw[List.pairwise_filter]
  have r:(List.range l.length).Pairwise (fun i j=>i<j∧j<l.length):=by
   have:=List.pairwise_lt_range (n:=l.length)
   refine List.Pairwise.imp_of_mem ?_ this
   intro i j hi hj hij
   exact⟨hij,aLu.1 hj⟩
  exact r.imp (fun{a b} hab h1 h2=>⟨hab.1,hab.2,h2⟩)
 refine this.imp ?_
 rintro i j ⟨h1,h2,h3⟩
 unfold gW at h3
 simp only[Bool.or_eq_true,decide_eq_true_eq]at h3
 have h4:nth l j≠nth l (j-1):=h3.elim (fun h=>by omega) id
 have h5:nth l (j-1)≤nth l j:=W7 h (by omega) h2
 have h6:nth l i≤nth l (j-1):=by
  by_cases c:i=j-1
  · rw[c];exact Int.le_refl _
  · exact W7 h (by omega) (by omega)
 omega
def OO(a b:List Int):List Int:=Bu (je (a++b))
theorem Mi(a b:List Int)(x:Int):x∈OO a b↔x∈a∨x∈b:=by
 unfold OO
 rw[U7 (s8 _),(kG _).mem_iff,List.mem_append]
theorem aaJ(a b:List Int):(OO a b).Pairwise (· < ·):=aaI (s8 _)
theorem U8(a b:List Int):(OO a b).length≤a.length+b.length:=by
 unfold OO Bu
 have:=Bj (gW (je (a++b))) (je (a++b)) (je (a++b)).length
 rw[kr,aLv]at this
 rw[kr,aLv]
 exact this
end Go.Ev
namespace Go.Ev
open Go
variable [Lib] [cu] [bM] [gu] [gk] [i7] [fK] [fI] [iv] [gj] [dq] [cT] [fT] [ff] [jA] [iY] [gC] [eC] [jL]
def B2(l:List Int)(x:Int):Nat:=(l.takeWhile fun y=>decide (y<x)).length
def GK(l:List Int)(x:Int):List Int:=if B2 l x<l.length∧nth l (B2 l x)=x then l else l.take (B2 l x)++x::l.drop (B2 l x)
theorem Dk:∀(l:List Int) (x:Int),B2 l x≤l.length∧(∀i,i<B2 l x→nth l i<x)∧(B2 l x<l.length→¬nth l (B2 l x)<x)
 | [],x=>⟨aLs _,fun i hi=>absurd hi (Nat.not_lt_zero _),fun h=>absurd h (by simp)⟩
 | y::l,x=>by
   obtain⟨a,b,c⟩:=Dk l x
   by_cases h:y<x
   · have e:B2 (y::l) x=B2 l x+1:=by unfold B2;rw[List.takeWhile_cons,if_pos (by simpa using h)];rfl
     rw[e]
     refine⟨by simp;omega,?_,?_⟩
     · intro i hi
       cases i with
       | zero=>exact h
       | succ i=>exact b i (by omega)
     · intro hl
       exact c (by simp at hl;omega)
   · have e:B2 (y::l) x=0:=by unfold B2;rw[List.takeWhile_cons,if_neg (by simpa using h)];rfl
     rw[e]
     exact⟨Nat.zero_le _,fun i hi=>absurd hi (Nat.not_lt_zero _),fun _=>h⟩
theorem Kq(l:List Int)(x:Int)(hl:l.length≤1000000):aD 0 N.iS [.t (tL l),I x] []=some (.t (tL (GK l x)),[]):=by
 refine ao K.ya rfl ?_
 obtain⟨k1,k2,k3⟩:=Dk l x
 have loop:∀z2:D,exS aD K.Bd ⟨[.t (tL l),I x,z2,I 0],[]⟩=some (.exit 0,⟨[.t (tL l),I x,.und,I (B2 l x)],[]⟩):=by
  intro z2
  refine bk (fun j=>⟨[.t (tL l),I x,.und,I j],[]⟩) (B2 l x) rfl ?_ ?_ (by simp)
  · intro j hj
    have:=k2 j hj
    simp(disch:=omega)only[go_sem,K.oY,↓reduceIte,reduceAdd,reduceSub]
  · by_cases c:B2 l x<l.length
    · have:=k3 c
      simp(disch:=omega)only[go_sem,K.oY,↓reduceIte,reduceAdd,reduceSub]
    · simp(disch:=omega)only[go_sem,K.oY,↓reduceIte,reduceAdd,reduceSub]
 unfold GK
 generalize B2 l x=k at*
 have tk:List.take k (List.map (T.int .i64) l)=List.map (T.int .i64) (l.take k):=(List.map_take ..).symm
 have dk:List.drop k (List.map (T.int .i64) l)=List.map (T.int .i64) (l.drop k):=(List.map_drop ..).symm
 have tl:(l.take k).length≤1000000:=by rw[List.length_take];omega
 have dl:(l.drop k).length≤1000000:=by rw[List.length_drop];omega
 have cm:List.map D.t (List.map (T.int .i64) (l.take k))++[D.t (T.int .i64 x)]++List.map D.t (List.map (T.int .i64) (l.drop k))=List.map D.t (List.map (T.int .i64) (l.take k++x::l.drop k)):=by simp
 have rl:(l.take k).length+1+(l.drop k).length=(l.take k++x::l.drop k).length:=by simp;omega
 by_cases c:k<l.length
 · by_cases d:nth l k=x
   · rw[if_pos ⟨c,d⟩]
     clear cm
     simp(disch:=omega)only[go_sem,K.iS,↓reduceIte,loop,c,d,reduceAdd,reduceSub]
   · rw[if_neg (fun h=>d h.2)]
     generalize l.take k++x::l.drop k=R at*
     generalize l.take k=A at*
     generalize l.drop k=G at*
     simp(disch:=omega)only[go_sem,K.iS,↓reduceIte,loop,c,d,tk,dk,cm,reduceAdd,reduceSub]
 · rw[if_neg (fun h=>c h.1)]
   generalize l.take k++x::l.drop k=R at*
   generalize l.take k=A at*
   generalize l.drop k=G at*
   simp(disch:=omega)only[go_sem,K.iS,↓reduceIte,loop,c,tk,dk,cm,reduceAdd,reduceSub]
theorem zz(l:List Int)(x y:Int):y∈GK l x↔y=x∨y∈l:=by
 unfold GK
 split
 · rename_i h
   constructor
   · exact .inr
   · rintro (rfl | h2)
     · rw[← h.2];exact ai h.1
     · exact h2
 · constructor
   · intro h
     rcases List.mem_append.1 h with h | h
     · exact .inr (List.mem_of_mem_take h)
     · rcases List.mem_cons.1 h with h | h
       · exact .inl h
       · exact .inr (List.mem_of_mem_drop h)
   · rintro (rfl | h)
     · exact List.mem_append_right _ (List.mem_cons_self ..)
     · rw[← List.take_append_drop (B2 l x) l]at h
       rcases List.mem_append.1 h with h | h
       · exact List.mem_append_left _ h
       · exact List.mem_append_right _ (List.mem_cons_of_mem _ h)
theorem wy{m:aB}(hm:m.ok){e:Esc}{x:Edge}(hx:x∈dP m e):x.r<m.roads.length∧jB m x.r x.a=((x.b:Int),x.t):=by
 have key:∀j,j≤m.roads.length→∀p,x∈Bi m e p j→x.r<j∧x.a=p∧jB m x.r p=((x.b:Int),x.t):=by
  intro j
  induction j with
  | zero=>intro _ p h;cases h
  | succ j ih=>
    intro hj p h
    rw[Bi,List.mem_append]at h
    rcases h with h | h
    · obtain⟨a,b,c⟩:=ih (by omega) p h
      exact⟨by omega,b,c⟩
    · unfold W5 at h
      split at h
      · rename_i hc
        rw[List.mem_singleton]at h
        subst h
        have hp:p<m.aa.length:=by
         have:=hc.1
         unfold jB at this
         obtain⟨f0,f1,t0,t1, -, -, -, -, -, -, -, -, -, -, -⟩:=hm.rs _ (ai (show j<m.roads.length by omega))
         split at this
         · omega
         · split at this
           · omega
           · simp only at this;omega
        have oo:=wu hm (show j<m.roads.length by omega) hp hc.1
        refine⟨by simp only;omega,rfl,?_⟩
        simp only
        rw[Int.toNat_of_nonneg oo.1]
      · cases h
 obtain⟨a,b,c⟩:=key _ (aLs _) x.a ((zx hm e x.a x).2 ⟨hx,rfl⟩)
 exact⟨a,c⟩
def woN(e:Esc)(P:List Edge):Nat→Esc
 | 0=>e
 | j+1=>{ woN e P j with shut:=GK (woN e P j).shut (nth P j).r,bad:=GK (woN e P j).bad (nth P j).b}
theorem U9{l:List Int}{n:Int}:lr l n=true↔l.Pairwise (· < ·)∧∀x∈l,0≤x∧x<n:=by
 rw[← xU,LS]
 refine and_congr_right fun _=>forall_congr' fun x=>forall_congr' fun _=>?_
 omega
theorem RM{l:List Int}(h:l.Pairwise (· < ·))(x:Int):(GK l x).Pairwise (· < ·):=by
 obtain⟨k1,k2,k3⟩:=Dk l x
 unfold GK
 split
 · exact h
 · rename_i hc
   have tk:∀y∈l.take (B2 l x),y<x:=by
    intro y hy
    obtain⟨i,hi,rfl⟩:=List.mem_iff_getElem.1 hy
    rw[List.length_take]at hi
    have:=k2 i (by omega)
    have e2:nth l i=l[i]:=bC (aLc (by omega))
    rw[e2]at this
    simpa using this
   have dk:∀y∈l.drop (B2 l x),x<y:=by
    intro y hy
    have hlt:B2 l x<l.length:=by
     have:=List.length_pos_of_mem hy
     rw[List.length_drop]at this
     omega
    rw[FW hlt]at hy
    have h0:x<nth l (B2 l x):=by
     have:=k3 hlt
     have:¬nth l (B2 l x)=x:=fun h=>hc ⟨hlt,h⟩
     omega
    rcases List.mem_cons.1 hy with rfl | hy
    · exact h0
    · have pd:=h.drop (i:=B2 l x)
      rw[FW hlt,List.pairwise_cons]at pd
      have:=pd.1 y hy
      omega
   rw[List.pairwise_append,List.pairwise_cons]
   refine⟨h.take,⟨dk,h.drop⟩,fun a ha b hb=>?_⟩
   have:=tk a ha
   rcases List.mem_cons.1 hb with rfl | hb
   · exact this
   · have:=dk b hb
     omega
theorem Iy{l:List Int}{x n:Int}(h:lr l n=true)(h0:0≤x)(h1:x<n):lr (GK l x) n=true:=by
 rw[U9]at h ⊢
 refine⟨RM h.1 x,fun y hy=>?_⟩
 rcases (zz l x y).1 hy with rfl | hy
 · exact⟨h0,h1⟩
 · exact h.2 y hy
theorem Mj(e:Esc)(P:List Edge)(x:Int):∀j,x∈(woN e P j).shut↔x∈e.shut∨∃i,i<j∧x=(nth P i).r
 | 0=>by simp[woN]
 | j+1=>by
   simp only[woN,zz,Mj e P x j]
   constructor
   · rintro (h | h | ⟨i,h1,h2⟩)
     · exact .inr ⟨j,by omega,h⟩
     · exact .inl h
     · exact .inr ⟨i,by omega,h2⟩
   · rintro (h | ⟨i,h1,h2⟩)
     · exact .inr (.inl h)
     · by_cases c:i=j
       · subst c;exact .inl h2
       · exact .inr (.inr ⟨i,by omega,h2⟩)
theorem RN(e:Esc)(P:List Edge)(x:Int):∀j,x∈(woN e P j).bad↔x∈e.bad∨∃i,i<j∧x=(nth P i).b
 | 0=>by simp[woN]
 | j+1=>by
   simp only[woN,zz,RN e P x j]
   constructor
   · rintro (h | h | ⟨i,h1,h2⟩)
     · exact .inr ⟨j,by omega,h⟩
     · exact .inl h
     · exact .inr ⟨i,by omega,h2⟩
   · rintro (h | ⟨i,h1,h2⟩)
     · exact .inr (.inl h)
     · by_cases c:i=j
       · subst c;exact .inl h2
       · exact .inr (.inr ⟨i,by omega,h2⟩)
theorem FZ(e:Esc)(P:List Edge):∀j,(woN e P j).safe=e.safe∧(woN e P j).bj=e.bj
 | 0=>⟨rfl,rfl⟩
 | j+1=>FZ e P j
theorem RO{m:aB}{e:Esc}(he:e.ok m){P:List Edge}(hP:∀x∈P,x.r<m.roads.length∧x.b<m.aa.length):∀j,j≤P.length→(woN e P j).ok m
 | 0,_=>he
 | j+1,hj=>by
   have h:=RO he hP j (by omega)
   have x:=hP _ (ai (show j<P.length by omega))
   exact⟨h.s,Iy h.b (by omega) (by omega),Iy h.h (by omega) (by omega),h.l0,h.l1⟩
theorem RP(e:Esc)(P:List Edge)(x:Int):x∈(woN e P P.length).shut↔x∈e.shut∨x∈od P:=by
 rw[Mj]
 refine or_congr_right ⟨?_,?_⟩
 · rintro ⟨i,h1,rfl⟩
   exact List.mem_map.2 ⟨_,ai h1,rfl⟩
 · intro h
   obtain⟨y,hy,rfl⟩:=List.mem_map.1 h
   obtain⟨i,hi,rfl⟩:=List.mem_iff_getElem.1 hy
   exact⟨i,hi,by rw[bC (aLc hi)]⟩
theorem W8(e:Esc)(P:List Edge)(x:Int):x∈(woN e P P.length).bad↔x∈e.bad∨x∈Kp P:=by
 rw[RN]
 refine or_congr_right ⟨?_,?_⟩
 · rintro ⟨i,h1,rfl⟩
   exact List.mem_map.2 ⟨_,ai h1,rfl⟩
 · intro h
   obtain⟨y,hy,rfl⟩:=List.mem_map.1 h
   obtain⟨i,hi,rfl⟩:=List.mem_iff_getElem.1 hy
   exact⟨i,hi,by rw[bC (aLc hi)]⟩
theorem Va(m:aB)(e f:Esc)(l:List Int)(h:∀x,x∈f.shut↔x∈e.shut∨x∈l)(k:Nat):BZ l (AB m e k)=AB m f k:=by
 unfold BZ AB
 by_cases c:(k:Int)∈e.shut
 · rw[if_pos c,if_pos ((h _).2 (.inl c))];rfl
 · rw[if_neg c,List.filter_append]
   by_cases d:(k:Int)∈l
   · rw[if_pos ((h _).2 (.inr d))]
     split<;>split<;>simp[o8,d]
   · rw[if_neg (fun hh=>((h _).1 hh).elim c d)]
     split<;>split<;>simp[o8,d]
theorem Mk(m:aB)(e f:Esc)(l:List Int)(h:∀x,x∈f.shut↔x∈e.shut∨x∈l):BZ l (dP m e)=dP m f:=by
 have key:∀j,BZ l (m8 m e j)=m8 m f j:=by
  intro j
  induction j with
  | zero=>rfl
  | succ j ih=>
    have:BZ l (m8 m e j++AB m e j)=BZ l (m8 m e j)++BZ l (AB m e j):=List.filter_append ..
    rw[m8,this,ih,Va m e f l h j]
    rfl
 exact key _
theorem RQ{a b:List Bool}(hl:a.length=b.length)(h:∀i,i<a.length→nth a i=nth b i):a=b:=by
 refine List.ext_getElem? fun i=>?_
 by_cases hi:i<a.length
 · rw[cG hi,cG (by omega),h i hi]
 · rw[aLm (by omega),aLm (by omega)]
theorem afW{m:aB}{e f:Esc}(he:e.ok m)(hf:f.ok m)(l:List Int)(hl:∀x∈l,0≤x)(h:∀x,x∈f.bad↔x∈e.bad∨x∈l):xl (bdL m e) l l.length=bdL m f:=by
 refine RQ (by rw[kJ,AA,AA]) fun i hi=>?_
 rw[kJ,AA]at hi
 rw[BX _ _ i (by rw[AA];exact hi) hl _ (aLs _),List.take_length,ye he hi,ye hf hi]
 unfold bdF
 rw[← Bool.decide_or]
 exact decide_eq_decide.2 (h i).symm
def atN(p:Nat)(P:List Edge):Nat→Nat
 | 0=>p
 | j+1=>(nth P j).b
theorem F3:∀ {p:Nat} {P:List Edge},Ik p P→∀j,j<P.length→(nth P j).a=atN p P j
 | p,[],_,j,h=>absurd h (by simp)
 | p,x::P,h,0,_=>h.1
 | p,x::P,h,j+1,hj=>by
   have:=F3 h.2 j (by simpa using hj)
   cases j with
   | zero=>exact this
   | succ j=>exact this
theorem Vb(l:List Int)(x:Int):(GK l x).length≤l.length+1:=by
 unfold GK
 split
 · omega
 · rw[aLv,List.length_cons,List.length_take,List.length_drop];omega
theorem N0{m:aB}(hm:m.ok){e:Esc}(he:e.ok m){p:Nat}(hp:p<m.aa.length){P:List Edge}(hl:P.length≤100000000)(hP:∀x∈P,x∈dP m e)(hc:Ik p P):
 aD 0 N.gl [.t m.e,.t e.e,I p,.t (tL (od P))] []=some (.t (woN e P P.length).e,[]):=by
 refine ao K.p6 rfl ?_
 have nr:=hm.nr
 have hP2:∀x∈P,x.r<m.roads.length∧x.b<m.aa.length:=fun x hx=>⟨(wy hm (hP x hx)).1,(cY hm e x (hP x hx)).2.1⟩
 have rl:(od P).length=P.length:=by simp
 have loop:∀z0 z1 z2 z9:D,exS aD K.ud ⟨[z0,z1,z2,.t (tL (od P)),.bp 0 0,.bp 1 0,.bp 2 0,I p,I 0,z9],[.box (ae m),.box (dZ e),.box [.nil,.nil,.nil,I 0]]⟩=
  some (.exit 0,⟨[.und,.und,.und,.t (tL (od P)),.bp 0 0,.bp 1 0,.bp 2 0,I (atN p P P.length),I P.length,.und],[.box (ae m),.box (dZ (woN e P P.length)),.box [.nil,.nil,.nil,I 0]]⟩):=by
  intro z0 z1 z2 z9
  refine bk (fun j=>⟨[.und,.und,.und,.t (tL (od P)),.bp 0 0,.bp 1 0,.bp 2 0,I (atN p P j),I j,.und],[.box (ae m),.box (dZ (woN e P j)),.box [.nil,.nil,.nil,I 0]]⟩) P.length (by simp only[go_sem];rfl) ?_ ?_ (by simp)
  · intro j hj
    have hx:=hP _ (ai hj)
    obtain⟨w1,w2⟩:=wy hm hx
    have xo:=cY hm e _ hx
    have ca:=F3 hc j hj
    have wk:=RO he hP2 j (by omega)
    have sl:=wk.hl hm
    have bl:=wk.bl hm
    have nx:nth (od P) j=((nth P j).r:Int):=bC (b8 _ hj)
    have ot:=vD hm (nth P j).r w1 (atN p P j) (by rw[← ca];exact xo.1)
    rw[ca]at w2
    rw[w2]at ot
    have q1:=Kq (woN e P j).shut (nth P j).r (by omega)
    have q2:=Kq (woN e P j).bad (nth P j).b (by omega)
    have a1:atN p P (j+1)=(nth P j).b:=rfl
    have a2:woN e P (j+1)={ woN e P j with shut:=GK (woN e P j).shut (nth P j).r,bad:=GK (woN e P j).bad (nth P j).b}:=rfl
    rw[a1,a2]
    generalize atN p P j=q at*
    generalize woN e P j=f at*
    generalize nth P j=x at*
    generalize od P=R at*
    obtain⟨xr,xa,xb,xt⟩:=x
    obtain⟨aa,roads⟩:=m
    obtain⟨safe,bad,shut,bj⟩:=f
    simp only[ae,dZ]at*
    simp(disch:=omega)only[go_sem,K.nM,↓reduceIte,nx,ot,q1,q2,reduceAdd,reduceSub]
  · obtain⟨aa,roads⟩:=m
    simp only[ae]at*
    simp(disch:=omega)only[go_sem,K.nM,↓reduceIte,reduceAdd,reduceSub]
 generalize woN e P P.length=f at*
 generalize od P=R at*
 obtain⟨aa,roads⟩:=m
 obtain⟨s1,b1,h1,m1⟩:=e
 obtain⟨safe,bad,shut,bj⟩:=f
 simp only[ae,dZ]at*
 simp(disch:=omega)only[go_sem,K.gl,↓reduceIte,loop,reduceAdd,reduceSub]
abbrev OP(m:aB)(e:Esc)(p:Nat):Esc:=woN e (w1E m e p) (w1E m e p).length
theorem Iz{m:aB}(hm:m.ok){e:Esc}(he:e.ok m){p:Nat}(hp:p<m.aa.length)(hf:c1E m e p<km):
 (OP m e p).ok m∧c1E m (OP m e p) p=c2E m e p∧w1E m (OP m e p) p=w2E m e p∧sfF m (OP m e p) p=sfF m e p:=by
 have pk:=Is hm e hp hf
 have hP2:∀x∈w1E m e p,x.r<m.roads.length∧x.b<m.aa.length:=fun x hx=>⟨(wy hm (pk.mem x hx).1).1,(pk.mem x hx).2.2⟩
 have ok2:=RO he hP2 _ (aLs _)
 have sf:=(FZ e (w1E m e p) (w1E m e p).length).1
 have w:dP m (OP m e p)=st2 m e p:=(Mk m e _ _ (RP e (w1E m e p))).symm
 have b:bdL m (OP m e p)=bd2 m e p:=(afW he ok2 _ (fun x hx=>by
  obtain⟨y,hy,rfl⟩:=List.mem_map.1 hx
  omega) (W8 e (w1E m e p))).symm
 have s:sfL m (OP m e p)=sfL m e:=by unfold sfL;rw[sf]
 refine⟨ok2,?_,?_,?_⟩
 · unfold c1E c2E;rw[w,b,s]
 · show aay (dP m (OP m e p)) (sfL m (OP m e p)) (bdL m (OP m e p)) m.aa.length p=w2E m e p
   rw[w,b,s];rfl
 · unfold sfF;rw[sf]
def aaK(m:aB)(e:Esc)(p:Nat):D:=
 if sfF m e p=true then .tup [.t (tL []),.t (tL []),B true]
 else if c1E m e p<km∧c2E m e p<km then .tup [.t (tL (od (w1E m e p))),.t (tL (od (w2E m e p))),B true]else .tup [.t (tL []),.t (tL []),B false]
theorem aaL{m:aB}(hm:m.ok){e:Esc}(he:e.ok m){p:Nat}(hp:p<m.aa.length)(hz:sfF m e p=false)(hf:c1E m e p<km):w1E m e p≠[]:=by
 intro h
 have pk:=(Is hm e hp hf).fin
 rw[h]at pk
 have:nth (sfL m e) p=true:=pk
 rw[p7 he hp,hz]at this
 cases this
theorem aaM{m:aB}(hm:m.ok){e:Esc}(he:e.ok m){p:Nat}(hp:p<m.aa.length):aD 0 N.iy [.t m.e,.t e.e,I p] []=some (aaK m e p,[]):=by
 refine ao K.tF rfl ?_
 have b1:=Mg hm he p hp
 unfold aaK
 unfold Mf at b1
 cases hz:sfF m e p with
 | true=>
   rw[hz,if_pos rfl]at b1
   rw[if_pos rfl]
   obtain⟨aa,roads⟩:=m
   obtain⟨safe,bad,shut,bj⟩:=e
   simp only[ae,dZ,tL,List.map_nil]at*
   simp(disch:=omega)only[go_sem,K.iy,↓reduceIte,b1,Bool.not_true,reduceAdd,reduceSub]
 | false=>
   rw[hz,if_neg (by simp)]at b1
   rw[if_neg (by simp)]
   by_cases hf:c1E m e p<km
   · rw[if_pos hf]at b1
     obtain⟨ok2,s1,s2,s3⟩:=Iz hm he hp hf
     have pk:=Is hm e hp hf
     have wo:=N0 hm he hp (by have:=FT hm e hp hf;omega) (fun x hx=>(pk.mem x hx).1) pk.chain
     have b2:=Mg hm ok2 p hp
     unfold Mf at b2
     rw[s1,s2,s3,hz,if_neg (by simp)]at b2
     have ne:¬(od (w1E m e p)).length=0:=by
      have:=aaL hm he hp hz hf
      rw[List.length_map]
      exact fun h=>this (List.length_eq_zero_iff.1 h)
     have n0:0<(od (w1E m e p)).length:=by omega
     clear pk s1 s2 s3 ok2
     generalize hE2:OP m e p=e2 at*
     have hE3:woN e (w1E m e p) (w1E m e p).length=e2:=hE2
     rw[hE3]at wo
     clear hE2 hE3
     generalize od (w1E m e p)=R at*
     generalize od (w2E m e p)=Q at*
     generalize c1E m e p=t1 at*
     generalize c2E m e p=t2 at*
     obtain⟨aa,roads⟩:=m
     obtain⟨safe,bad,shut,bj⟩:=e
     obtain⟨safe2,bad2,shut2,limit2⟩:=e2
     simp only[ae,dZ]at*
     by_cases h2:t2<km
     · rw[if_pos h2]at b2
       rw[if_pos ⟨hf,h2⟩]
       simp(disch:=omega)only[go_sem,K.iy,↓reduceIte,b1,b2,wo,ne,Bool.not_true,reduceAdd,reduceSub]
     · rw[if_neg h2]at b2
       rw[if_neg (fun h=>h2 h.2)]
       simp only[tL,List.map_nil]at*
       simp(disch:=omega)only[go_sem,K.iy,↓reduceIte,b1,b2,wo,ne,Bool.not_true,Bool.not_false,reduceAdd,reduceSub]
   · rw[if_neg hf]at b1
     rw[if_neg (fun h=>hf h.1)]
     obtain⟨aa,roads⟩:=m
     obtain⟨safe,bad,shut,bj⟩:=e
     simp only[ae,dZ,tL,List.map_nil]at*
     simp(disch:=omega)only[go_sem,K.iy,↓reduceIte,b1,Bool.not_false,reduceAdd,reduceSub]
theorem Ml{m:aB}(hm:m.ok){k:Nat}(hk:k<m.roads.length)(b:Bool):kI m k b= -1↔((nth m.roads k).closed=true∨(nth m.roads k).walk=false):=by
 have l0:=(hm.rs _ (ai hk)).l0
 have l1:=(hm.rs _ (ai hk)).l1
 constructor
 · intro h
   apply Classical.byContradiction
   intro hn
   unfold kI iN at h
   simp only at h
   rw[if_neg hn]at h
   have:=W4 (s:=if -10*((nth m.aa (if b=true then(nth m.roads k).frm else(nth m.roads k).to).toNat).h-(nth m.aa (if b=true then(nth m.roads k).to else(nth m.roads k).frm).toNat).h)>(nth m.roads k).len then 3 else if 10*((nth m.aa (if b=true then(nth m.roads k).frm else(nth m.roads k).to).toNat).h-(nth m.aa (if b=true then(nth m.roads k).to else(nth m.roads k).frm).toNat).h)>(nth m.roads k).len then 2 else 4) l0 l1 (by
    repeat' split
    all_goals first | exact .inl rfl | exact .inr (.inl rfl) | exact .inr (.inr rfl))
   omega
 · intro h
   unfold kI iN
   simp only
   rw[if_pos h]
theorem aaN{m:aB}(hm:m.ok)(p:Nat)(hp:p<m.aa.length):aD 0 N.lE [.t m.e,I p] []=some (I (NX m p),[]):=by
 refine ao K.x8 rfl ?_
 have np:=hm.np
 have nr:=hm.nr
 have loop:∀z0 z3 z6:D,exS aD K.Bc ⟨[z0,I p,.bp 0 0,z3,I 0,I 0,z6],[.box (ae m)]⟩=
  some (.exit 0,⟨[.und,I p,.bp 0 0,.und,I (NX m p),I m.roads.length,.und],[.box (ae m)]⟩):=by
  intro z0 z3 z6
  refine bk (fun j=>⟨[.und,I p,.bp 0 0,.und,I (Ir m p j),I j,.und],[.box (ae m)]⟩) m.roads.length rfl ?_ ?_ (by simp)
  · intro j hj
    have w1:=BW hm j hj false
    have w2:=BW hm j hj true
    have b0:=Dh hm p j (by omega)
    have b1:=lM hm j hj false
    have b2:=lM hm j hj true
    have i1:=Ml hm hj false
    have i2:=Ml hm hj true
    have ne:=(hm.rs _ (ai hj)).ne
    have bb:kI m j false= -1↔kI m j true= -1:=i1.trans i2.symm
    have ex:(m.roads.map Road.e)[j]?=some (nth m.roads j).e:=b8 _ hj
    clear i1 i2
    conv=>rhs;unfold Ir
    generalize Ir m p j=L at*
    generalize kI m j false=u at*
    generalize kI m j true=v at*
    generalize nth m.roads j=x at*
    obtain⟨frm,to,len,ar,walk,closed,rl,rh,ll,lh⟩:=x
    simp only at*
    obtain⟨aa,roads⟩:=m
    simp only[ae]at*
    have m1:∀a:Int,0≤a→max a (-1)=a:=fun a h=>by omega
    by_cases c1:frm=p
    · have c2:¬to=p:=fun h=>ne (by rw[c1,h])
      by_cases c3:0≤u
      · simp(disch:=omega)only[go_sem,K.jI,↓reduceIte,ex,w1,w2,c1,c2,c3,reduceAdd,reduceSub]
      · have v1:v= -1:=by omega
        subst v1
        simp(disch:=omega)only[go_sem,K.jI,↓reduceIte,ex,w1,w2,c1,c2,c3,m1,reduceAdd,reduceSub]
    · by_cases c2:to=p
      · by_cases c3:0≤v
        · simp(disch:=omega)only[go_sem,K.jI,↓reduceIte,ex,w1,w2,c1,c2,c3,reduceAdd,reduceSub]
        · have u1:u= -1:=by omega
          subst u1
          simp(disch:=omega)only[go_sem,K.jI,↓reduceIte,ex,w1,w2,c1,c2,c3,m1,reduceAdd,reduceSub]
      · simp(disch:=omega)only[go_sem,K.jI,↓reduceIte,ex,w1,w2,c1,c2,reduceAdd,reduceSub]
  · obtain⟨aa,roads⟩:=m
    simp only[ae]at*
    simp(disch:=omega)only[go_sem,K.jI,↓reduceIte,reduceAdd,reduceSub]
    rfl
 generalize NX m p=r at*
 obtain⟨aa,roads⟩:=m
 simp only[ae]at*
 simp(disch:=omega)only[go_sem,K.lE,↓reduceIte,loop,reduceAdd,reduceSub]
def Kr(P:List Edge):Nat→Int
 | 0=>0
 | j+1=>Kr P j+(nth P j).t
def Ks(p:Nat)(P:List Edge)(j:Nat):List Int:=(p:Int)::Kp (P.take j)
structure akm(m:aB)(e:Esc)(p:Nat)(P:List Edge):Prop where
 mem:∀x∈P,x∈dP m e∧sfF m e x.a=false∧bdF e x.b=false
 ch:Ik p P
 nd:(p::P.map Edge.b).Nodup
 fin:sfF m e (aah p P)=true
theorem Kt:∀(p:Nat) (P:List Edge),aah p P=atN p P P.length
 | p,[]=>rfl
 | p,x::P=>by
   show aah x.b P=_
   rw[Kt x.b P]
   cases P<;>rfl
theorem RR{P:List Edge}(h:∀x∈P,1≤x.t∧x.t≤1000000):∀j,j≤P.length→0≤Kr P j∧Kr P j≤1000000*j
 | 0,_=>by simp[Kr]
 | j+1,hj=>by
   have:=RR h j (by omega)
   have:=h _ (ai (show j<P.length by omega))
   simp only[Kr]
   omega
theorem RS(p:Nat)(P:List Edge){j:Nat}(hj:j<P.length):Ks p P (j+1)=Ks p P j++[((nth P j).b:Int)]:=by
 unfold Ks
 rw[List.take_succ,cG hj]
 simp[Kp]
theorem Mm(p:Nat)(P:List Edge){j:Nat}(hj:j≤P.length):(Ks p P j).length=j+1:=by
 unfold Ks
 simp[Kp,List.length_take]
 omega
theorem Vc{p:Nat}{P:List Edge}(h:(p::P.map Edge.b).Nodup){j:Nat}(hj:j<P.length):((nth P j).b:Int)∉Ks p P j:=by
 intro hm
 unfold Ks at hm
 have e:P=P.take j++nth P j::P.drop (j+1):=by
  have hx:P.drop j=nth P j::P.drop (j+1):=by
   rw[List.drop_eq_getElem_cons hj]
   congr 1
   have:=cG hj
   rw[aLc hj]at this
   exact Option.some.inj this
  rw[← hx,List.take_append_drop]
 rw[e,List.map_append,List.map_cons,List.nodup_cons,List.mem_append,List.nodup_append]at h
 obtain⟨h1,h2,h3,h4⟩:=h
 rcases List.mem_cons.1 hm with hm | hm
 · exact h1 (.inr (by rw[show p=(nth P j).b by omega];exact List.mem_cons_self ..))
 · obtain⟨y,hy,hq⟩:=List.mem_map.1 hm
   exact h4 y.b (List.mem_map.2 ⟨y,hy,rfl⟩) (nth P j).b (List.mem_cons_self ..) (by omega)
theorem IA(m:aB)(e:Esc)(p:Nat){x:Edge}:∀j,x∈Bi m e p j→(x.r:Int)∉e.shut
 | 0,h=>by cases h
 | j+1,h=>by
   rw[Bi,List.mem_append]at h
   rcases h with h | h
   · exact IA m e p j h
   · unfold W5 at h
     split at h
     · rename_i hc
       rw[List.mem_singleton]at h
       subst h
       exact hc.2
     · cases h
theorem aaO{m:aB}(hm:m.ok){e:Esc}(he:e.ok m){p:Nat}(hp:p<m.aa.length){P:List Edge}(hl:P.length≤64000000)(g:akm m e p P)(z0 z1 z2 z6 z7 z12 z13:D):
 exS aD K.zo ⟨[z0,z1,z2,.t (tL (od P)),.bp 0 0,.bp 1 0,z6,z7,I p,I 0,.ref 2 0 1,I 0,z12,z13],[.box (ae m),.box (dZ e),kF [(p:Int)]]⟩=
  some (.exit 0,⟨[.und,.und,.und,.t (tL (od P)),.bp 0 0,.bp 1 0,.und,.und,I (atN p P P.length),I (Kr P P.length),.ref 2 0 (Ks p P P.length).length,I P.length,.und,.und],[.box (ae m),.box (dZ e),kF (Ks p P P.length)]⟩):=by
 have nr:=hm.nr
 have np:=hm.np
 have rl:(od P).length=P.length:=by simp
 refine bk (fun j=>⟨[.und,.und,.und,.t (tL (od P)),.bp 0 0,.bp 1 0,.und,.und,I (atN p P j),I (Kr P j),.ref 2 0 (Ks p P j).length,I j,.und,.und],[.box (ae m),.box (dZ e),kF (Ks p P j)]⟩) P.length (by simp only[go_sem];rfl) ?_ ?_ (by simp)
 · intro j hj
   obtain⟨hx,hz,hb⟩:=g.mem _ (ai hj)
   obtain⟨w1,w2⟩:=wy hm hx
   have xo:=cY hm e _ hx
   have ca:=F3 g.ch j hj
   have nx:nth (od P) j=((nth P j).r:Int):=bC (b8 _ hj)
   have ot:=vD hm (nth P j).r w1 (atN p P j) (by rw[← ca];exact xo.1)
   have sf:=tQ hm (e:=e) (by have:=he.sl hm;omega) (atN p P j) (by rw[← ca];exact xo.1)
   rw[ca]at w2 hz
   rw[w2]at ot
   rw[hz]at sf
   have ns:¬((nth P j).r:Int)∈e.shut:=by
    intro h
    exact IA m e _ _ ((zx hm e (nth P j).a (nth P j)).2 ⟨hx,rfl⟩) h
   have h1:=mI e.shut (nth P j).r (by have:=he.hl hm;omega)
   rw[decide_eq_false ns]at h1
   have ml:=Mm p P (j:=j) (by omega)
   have h2:=mI (Ks p P j) (nth P j).b (by omega)
   rw[decide_eq_false (Vc g.nd hj)]at h2
   have h3:=mI e.bad (nth P j).b (by have:=he.bl hm;omega)
   unfold bdF at hb
   rw[hb]at h3
   have sb:=RR (P:=P) (fun x hx=>(cY hm e x (g.mem x hx).1).2.2) j (by omega)
   have a1:atN p P (j+1)=(nth P j).b:=rfl
   have a2:Kr P (j+1)=Kr P j+(nth P j).t:=rfl
   have xt:=xo.2.2
   rw[a1,a2,RS p P hj]
   clear hx hz hb ca ns w2 xo a1 a2
   generalize atN p P j=q at*
   generalize Kr P j=S at*
   generalize Ks p P j=M at*
   generalize nth P j=x at*
   generalize od P=R at*
   obtain⟨xr,xa,xb,xt⟩:=x
   obtain⟨aa,roads⟩:=m
   obtain⟨safe,bad,shut,bj⟩:=e
   simp only[ae,dZ]at*
   simp(disch:=omega)only[go_sem,K.q8,↓reduceIte,nx,ot,sf,h1,h2,h3,reduceAdd,reduceSub]
   simp only[kF,List.map_append,List.map_cons,List.map_nil]
 · have ml:=Mm p P (j:=P.length) (aLs _)
   generalize Ks p P P.length=M at*
   generalize od P=R at*
   obtain⟨aa,roads⟩:=m
   obtain⟨safe,bad,shut,bj⟩:=e
   simp only[ae,dZ]at*
   simp(disch:=omega)only[go_sem,K.q8,↓reduceIte,reduceAdd,reduceSub]
theorem F4{m:aB}(hm:m.ok){e:Esc}(he:e.ok m){p:Nat}(hp:p<m.aa.length){P:List Edge}(hl:P.length≤64000000)(g:akm m e p P):
 aD 0 N.ig [.t m.e,.t e.e,I p,.t (tL (od P))] []=some (.tup [I (Kr P P.length),I 0],[]):=by
 refine ao K.vo rfl ?_
 have np:=hm.np
 have vd:=tP hm he
 have lp:=aaO hm he hp hl g
 have ap:atN p P P.length<m.aa.length:=by
  cases hP:P.length with
  | zero=>exact hp
  | succ j=>
    have:=(g.mem _ (ai (show j<P.length by omega))).1
    exact(cY hm e _ this).2.1
 have sf:=tQ hm (e:=e) (by have:=he.sl hm;omega) (atN p P P.length) ap
 have fz:=g.fin
 rw[Kt]at fz
 rw[fz]at sf
 clear g fz
 generalize atN p P P.length=q at*
 generalize Kr P P.length=S at*
 generalize Ks p P P.length=M at*
 generalize od P=R at*
 obtain⟨aa,roads⟩:=m
 obtain⟨safe,bad,shut,bj⟩:=e
 simp only[ae,dZ]at*
 simp(disch:=omega)only[go_sem,K.ig,↓reduceIte,vd,Bool.not_true,reduceAdd,reduceSub]
 refine iz (lp _ _ _ _ _ _ _) ?_
 simp(disch:=omega)only[go_sem,K.ig,↓reduceIte,sf,Bool.not_true,reduceAdd,reduceSub]
theorem Mn(P:List Edge):∀j,j≤P.length→Kr P j=((P.take j).map Edge.t).sum
 | 0,_=>rfl
 | j+1,hj=>by
   rw[Kr,Mn P j (by omega),List.take_succ,cG hj,List.map_append,List.sum_append]
   simp
theorem IB{m:aB}(hm:m.ok){e f:Esc}(he:e.ok m)(hf:f.ok m)(hs:f.safe=e.safe)(hb:∀x∈e.bad,x∈f.bad)(hh:∀x∈e.shut,x∈f.shut){p:Nat}(hp:p<m.aa.length)(h1:c1E m f p<km):
 akm m e p (w1E m f p)∧Kr (w1E m f p) (w1E m f p).length=c1E m f p:=by
 have pk:=Is hm f hp h1
 constructor
 · refine⟨fun x hx=>?_,pk.chain,?_,?_⟩
   · obtain⟨a,b,c⟩:=pk.mem x hx
     have xo:=cY hm f x a
     unfold uB at b
     rw[p7 hf xo.1,ye hf xo.2.1]at b
     simp only[aLr,Bool.not_eq_true']at b
     refine⟨?_,?_,?_⟩
     · have:x∈BZ f.shut (dP m e):=by
        rw[Mk m e f f.shut (fun y=>⟨.inr,fun h=>h.elim (hh y) id⟩)]
        exact a
       exact(List.mem_filter.1 this).1
     · have:=b.1
       unfold sfF at this ⊢
       rw[← hs]
       exact this
     · have:=b.2
       unfold bdF at this ⊢
       rw[decide_eq_false_iff_not]at this ⊢
       exact fun h=>this (hb _ h)
   · rw[List.nodup_cons]
     refine⟨fun hm'=>?_,pk.dis⟩
     obtain⟨y,hy,rfl⟩:=List.mem_map.1 hm'
     have:=pk.low y hy
     omega
   · have:=pk.fin
     have ep:aah p (w1E m f p)<m.aa.length:=by
      rw[Kt]
      cases hP:(w1E m f p).length with
      | zero=>exact hp
      | succ j=>exact(pk.mem _ (ai (show j<(w1E m f p).length by omega))).2.2
     have:nth (sfL m f) (aah p (w1E m f p))=true:=this
     rw[p7 hf ep]at this
     unfold sfF at this ⊢
     rw[← hs]
     exact this
 · rw[Mn _ _ (aLs _),List.take_length]
   exact pk.sum
theorem wz{m:aB}(hm:m.ok){e:Esc}(he:e.ok m){p:Nat}(hp:p<m.aa.length):aD 0 N.bT [.t m.e,.t e.e,I p] []=some (B (aN m e p),[]):=by
 refine ao K.nS rfl ?_
 have tw:=aaM hm he hp
 have lg:=aaN hm p hp
 have lb:=Dh hm p m.roads.length (aLs _)
 have le:Ir m p m.roads.length=NX m p:=rfl
 rw[le]at lb
 unfold aaK at tw
 unfold aN
 rw[p7 he hp]
 have fc:km=1152921504606846976:=rfl
 have e0:=he.l0
 have e1:=he.l1
 cases hz:sfF m e p with
 | true=>
   rw[hz,if_pos rfl]at tw
   rw[if_pos rfl]
   have tm0:=F4 hm he hp (P:=[]) (by simp) ⟨by simp,trivial,by simp,hz⟩
   have tm:aD 0 N.ig [.t m.e,.t e.e,I p,.t (.sl [])] []=some (.tup [I 0,I 0],[]):=tm0
   clear hz le tm0
   generalize NX m p=lag at*
   obtain⟨aa,roads⟩:=m
   obtain⟨safe,bad,shut,bj⟩:=e
   simp only[tL,List.map_nil]at*
   by_cases c:lag≤bj
   · simp(disch:=omega)only[go_sem,K.bT,↓reduceIte,tw,lg,tm,c,Bool.not_true,Int.zero_add,decide_true,reduceAdd,reduceSub]
   · simp(disch:=omega)only[go_sem,K.bT,↓reduceIte,tw,lg,tm,c,Bool.not_true,Int.zero_add,decide_false,reduceAdd,reduceSub]
 | false=>
   rw[hz,if_neg (by simp)]at tw
   rw[if_neg (by simp)]
   by_cases h:c1E m e p<km∧c2E m e p<km
   · rw[if_pos h]at tw
     obtain⟨ok2,s1,s2,s3⟩:=Iz hm he hp h.1
     have sf:=FZ e (w1E m e p) (w1E m e p).length
     have g1:=IB hm he he rfl (fun _ h=>h) (fun _ h=>h) hp h.1
     have g2:=IB hm he ok2 sf.1 (fun x hx=>(W8 e _ x).2 (.inl hx)) (fun x hx=>(RP e _ x).2 (.inl hx)) hp (by rw[s1];exact h.2)
     have l2:=FT hm (OP m e p) hp (by rw[s1];exact h.2)
     rw[s1,s2]at g2
     rw[s2]at l2
     have t1:=F4 hm he hp (FT hm e hp h.1) g1.1
     have t2:=F4 hm he hp l2 g2.1
     rw[g1.2]at t1
     rw[g2.2]at t2
     have c1:=tR (sf:=sfL m e) (bd:=bdL m e) (cY hm e) hm.np hp h.1
     have c2:=tR (sf:=sfL m e) (bd:=bd2 m e p) (FR (od (w1E m e p)) (cY hm e)) hm.np hp h.2
     have e3:(nth (iV (dP m e) (sfL m e) (bdL m e) m.aa.length) p).t=c1E m e p:=rfl
     have e4:(nth (iV (BZ (od (w1E m e p)) (dP m e)) (sfL m e) (bd2 m e p) m.aa.length) p).t=c2E m e p:=rfl
     rw[e3]at c1
     rw[e4]at c2
     clear e3 e4 g1 g2 ok2 s1 s2 s3 sf le l2 hz
     have h1:=h.1
     have h2:=h.2
     clear h
     generalize NX m p=lag at*
     generalize c1E m e p=u at*
     generalize c2E m e p=v at*
     generalize od (w1E m e p)=R at*
     generalize od (w2E m e p)=Q at*
     obtain⟨aa,roads⟩:=m
     obtain⟨safe,bad,shut,bj⟩:=e
     simp only at*
     have key:(u<km∧v<km∧lag+max u v≤bj)↔(u+lag≤bj∧v+lag≤bj):=by
      constructor
      · intro h;omega
      · intro h;refine⟨h1,h2,?_⟩;omega
     by_cases a:u+lag≤bj
     · by_cases b:v+lag≤bj
       · rw[decide_eq_true (key.2 ⟨a,b⟩)]
         simp(disch:=omega)only[go_sem,K.bT,↓reduceIte,tw,lg,t1,t2,a,b,Bool.not_true,decide_true,reduceAdd,reduceSub]
       · rw[decide_eq_false (fun h=>b (key.1 h).2)]
         simp(disch:=omega)only[go_sem,K.bT,↓reduceIte,tw,lg,t1,t2,a,b,Bool.not_true,decide_false,reduceAdd,reduceSub]
     · rw[decide_eq_false (fun h=>a (key.1 h).1)]
       simp(disch:=omega)only[go_sem,K.bT,↓reduceIte,tw,lg,t1,t2,a,Bool.not_true,decide_false,reduceAdd,reduceSub]
   · rw[if_neg h]at tw
     rw[decide_eq_false (fun hh=>h ⟨hh.1,hh.2.1⟩)]
     obtain⟨aa,roads⟩:=m
     obtain⟨safe,bad,shut,bj⟩:=e
     simp only[tL,List.map_nil]at*
     simp(disch:=omega)only[go_sem,K.bT,↓reduceIte,tw,Bool.not_false,reduceAdd,reduceSub]
def clR(r:Road)(b:Bool):Road:={ r with closed:=b}
def clN(rs:List Road)(l:List Int)(b:Bool):Nat→List Road
 | 0=>rs
 | j+1=>(clN rs l b j).set (nth l j).toNat (clR (nth (clN rs l b j) (nth l j).toNat) b)
theorem p9(rs:List Road)(l:List Int)(b:Bool):∀j,(clN rs l b j).length=rs.length
 | 0=>rfl
 | j+1=>by simp only[clN,List.length_set];exact p9 rs l b j
theorem Ku{L:List Road}{i j:Nat}{a:Road}(h:j≠i):nth (L.set j a) i=nth L i:=by
 unfold nth
 simp only[aLl,aLi h]
theorem Kv(rs:List Road)(l:List Int)(b:Bool)(p:Nat)(hp:p<rs.length)(h0:∀x∈l,0≤x):∀j,j≤l.length→nth (clN rs l b j) p=if(p:Int)∈l.take j then clR (nth rs p) b else nth rs p
 | 0,_=>by simp[clN]
 | j+1,hj=>by
   have ih:=Kv rs l b p hp h0 j (by omega)
   have hx:0≤nth l j:=h0 _ (ai (by omega))
   have tk:l.take (j+1)=l.take j++[nth l j]:=by
    rw[List.take_succ,cG (by omega)];rfl
   simp only[clN]
   by_cases c:(nth l j).toNat=p
   · have m:(p:Int)∈l.take (j+1):=by
      rw[tk,List.mem_append,List.mem_singleton];right;omega
     rw[if_pos m,c]
     have:nth ((clN rs l b j).set p (clR (nth (clN rs l b j) p) b)) p=clR (nth (clN rs l b j) p) b:=bC (aLj (by rw[p9];exact hp))
     rw[this,ih]
     split<;>rfl
   · rw[Ku c,ih]
     have:((p:Int)∈l.take (j+1))=((p:Int)∈l.take j):=by
      rw[tk,List.mem_append,List.mem_singleton]
      exact propext ⟨fun h=>h.elim id (fun h=>absurd (by omega) c),.inl⟩
     simp only[this]
def bY(m:aB)(shut opn:List Int):aB:=⟨m.aa,clN (clN m.roads shut true shut.length) opn false opn.length⟩
theorem pt(m:aB)(s o:List Int):(bY m s o).roads.length=m.roads.length:=by unfold bY;rw[p9,p9]
theorem EO{m:aB}{s o:List Int}(hs:lr s m.roads.length=true)(ho:lr o m.roads.length=true){p:Nat}(hp:p<m.roads.length):
 nth (bY m s o).roads p=if(p:Int)∈o then clR (nth m.roads p) false else if(p:Int)∈s then clR (nth m.roads p) true else nth m.roads p:=by
 unfold bY
 simp only
 rw[Kv _ _ _ p (by rw[p9];exact hp) (fun x hx=>(qv ho x hx).1) _ (aLs _),Kv _ _ _ p hp (fun x hx=>(qv hs x hx).1) _ (aLs _),List.take_length,List.take_length]
 by_cases c:(p:Int)∈o
 · rw[if_pos c,if_pos c];split<;>rfl
 · rw[if_neg c,if_neg c]
theorem Dl{m:aB}(h:m.ok){s o:List Int}(hs:lr s m.roads.length=true)(ho:lr o m.roads.length=true):(bY m s o).ok:=by
 refine⟨h.np,by rw[pt];exact h.nr,h.hs,?_⟩
 intro r hr
 obtain⟨j,hj,rfl⟩:=List.mem_iff_getElem.1 hr
 have e2:nth (bY m s o).roads j=(bY m s o).roads[j]:=bC (aLc hj)
 rw[← e2]
 rw[pt]at hj
 rw[EO hs ho hj]
 have hx:(nth m.roads j).ok m.aa.length:=h.rs _ (ai hj)
 obtain⟨a1,a2,a3,a4,a5,a6,a7,a8,a9,b1,b2,b3,b4,b5,b6⟩:=hx
 split
 · exact⟨a1,a2,a3,a4,a5,a6,a7,a8,a9,b1,b2,b3,b4,b5,b6⟩
 · split
   · exact⟨a1,a2,a3,a4,a5,a6,a7,a8,a9,b1,b2,b3,b4,b5,b6⟩
   · exact⟨a1,a2,a3,a4,a5,a6,a7,a8,a9,b1,b2,b3,b4,b5,b6⟩
theorem RT(o:List Int)(ho:o.length≤1000000)(x:Int):aD 0 N.bN [I x,.bp 0 0] [.box [.t (tL o)]]=some (B (decide (x∈o)),[.box [.t (tL o)]]):=by
 refine ao K.kS rfl ?_
 have cn:=pI o x (by omega)
 simp(disch:=omega)only[go_sem,K.bN,↓reduceIte,cn,reduceAdd,reduceSub]
abbrev adh(l:List Road):Obj:= .arr 10 false 0 ((l.map Road.e).map .t)
theorem Mo(L:List Road)(j:Nat)(x:Road)(t:T)(h:x.e=t):(List.map D.t (List.map Road.e L)).set j (D.t t)=List.map D.t (List.map Road.e (L.set j x)):=by
 simp only[List.map_set,h]
theorem afX(rs:List Road)(pl:List Place)(l o:List Int)(hr:rs.length≤1000)(hl:l.length≤1000)(hm:∀x∈l,0≤x∧x<rs.length)(m:aB)(z0 z1 z2 z3 z6 z7 z9 z10 z14 z15 z16:D):
 exS aD K.pU ⟨[z0,z1,z2,z3,.bp 1 0,.bp 2 0,z6,z7,.bp 3 0,z9,z10,.t (tL l),I l.length,I 0,z14,z15,z16],[.box (ae m),.box [.t (tL o)],.box [.nil,.nil],.box [.t (.sl (pl.map Place.e)),.ref 4 0 rs.length],adh rs]⟩=
  some (.exit 1,⟨[.und,.und,.und,.und,.bp 1 0,.bp 2 0,.und,.und,.bp 3 0,.und,.und,.t (tL l),I l.length,I l.length,.und,.und,.und],[.box (ae m),.box [.t (tL o)],.box [.nil,.nil],.box [.t (.sl (pl.map Place.e)),.ref 4 0 rs.length],adh (clN rs l true l.length)]⟩):=by
 refine bk (fun j=>⟨[.und,.und,.und,.und,.bp 1 0,.bp 2 0,.und,.und,.bp 3 0,.und,.und,.t (tL l),I l.length,I j,.und,.und,.und],[.box (ae m),.box [.t (tL o)],.box [.nil,.nil],.box [.t (.sl (pl.map Place.e)),.ref 4 0 rs.length],adh (clN rs l true j)]⟩) l.length (by simp only[go_sem,clN]) ?_ ?_ (by simp)
 · intro j hj
   have ln:=p9 rs l true j
   have hx:=hm _ (ai hj)
   simp only[clN]
   generalize clN rs l true j=L at*
   generalize hy:nth L (nth l j).toNat=y at*
   obtain⟨frm,to,len,ar,walk,closed,rl,rh,ll,lh⟩:=y
   simp(disch:=omega)only[go_sem,K.kP,↓reduceIte,hy,Mo L (nth l j).toNat ⟨frm,to,len,ar,walk,true,rl,rh,ll,lh⟩ _ rfl,reduceAdd,reduceSub]
   rfl
 · have ln:=p9 rs l true l.length
   generalize clN rs l true l.length=L at*
   simp(disch:=omega)only[go_sem,K.kP,↓reduceIte,reduceAdd,reduceSub]
theorem afY(rs:List Road)(pl:List Place)(l o:List Int)(hr:rs.length≤1000)(hl:l.length≤1000)(hm:∀x∈l,0≤x∧x<rs.length)(m:aB)(z0 z1 z2 z3 z4 z6 z7 z9 z10 z11 z12 z13:D):
 exS aD K.pV ⟨[z0,z1,z2,z3,z4,.bp 2 0,z6,z7,.bp 3 0,z9,z10,z11,z12,z13,.t (tL l),I l.length,I 0],[.box (ae m),.box [.t (tL o)],.box [.nil,.nil],.box [.t (.sl (pl.map Place.e)),.ref 4 0 rs.length],adh rs]⟩=
  some (.exit 3,⟨[.und,.und,.und,.und,.und,.bp 2 0,.und,.und,.bp 3 0,.und,.und,.und,.und,.und,.t (tL l),I l.length,I l.length],[.box (ae m),.box [.t (tL o)],.box [.nil,.nil],.box [.t (.sl (pl.map Place.e)),.ref 4 0 rs.length],adh (clN rs l false l.length)]⟩):=by
 refine bk (fun j=>⟨[.und,.und,.und,.und,.und,.bp 2 0,.und,.und,.bp 3 0,.und,.und,.und,.und,.und,.t (tL l),I l.length,I j],[.box (ae m),.box [.t (tL o)],.box [.nil,.nil],.box [.t (.sl (pl.map Place.e)),.ref 4 0 rs.length],adh (clN rs l false j)]⟩) l.length (by simp only[go_sem,clN]) ?_ ?_ (by simp)
 · intro j hj
   have ln:=p9 rs l false j
   have hx:=hm _ (ai hj)
   simp only[clN]
   generalize clN rs l false j=L at*
   generalize hy:nth L (nth l j).toNat=y at*
   obtain⟨frm,to,len,ar,walk,closed,rl,rh,ll,lh⟩:=y
   simp(disch:=omega)only[go_sem,K.kQ,↓reduceIte,hy,Mo L (nth l j).toNat ⟨frm,to,len,ar,walk,false,rl,rh,ll,lh⟩ _ rfl,reduceAdd,reduceSub]
   rfl
 · have ln:=p9 rs l false l.length
   generalize clN rs l false l.length=L at*
   simp(disch:=omega)only[go_sem,K.kQ,↓reduceIte,reduceAdd,reduceSub]
theorem yf{m:aB}(hm:m.ok){s o:List Int}(hs:lr s m.roads.length=true)(ho:lr o m.roads.length=true):
 aD 0 N.bD [.t m.e,.t (tL s),.t (tL o)] []=some (if s.any (fun x=>decide (x∈o))=true then .tup [.t (aB.e ⟨[],[]⟩),I 4]else .tup [.t (bY m s o).e,I 0],[]):=by
 refine ao K.mX rfl ?_
 have np:=hm.np
 have nr:=hm.nr
 have pv:=iQ hm
 have sl:=i9 hs
 have ol:=i9 ho
 have r1:=mN s 0 (m.roads.length-1) (by omega)
 have r2:=mN o 0 (m.roads.length-1) (by omega)
 rw[xU,hs]at r1
 rw[xU,ho]at r2
 have cf:=uU s (by omega) N.bN [[tL o]] (fun x=>decide (x∈o)) (fun x _=>RT o (by omega) x)
 have cf:aD 0 N.aK [.t (tL s),.fn N.bN [.bp 0 0]] [.box [.t (tL o)]]=some (B (s.any (fun x=>decide (x∈o))),[.box [.t (tL o)]]):=cf
 have k1:=ND m.aa (by omega)
 have k2:=NF m.roads (by omega)
 have l1:=afX m.roads m.aa s o (by omega) (by omega) (qv hs) m
 have cl:=p9 m.roads s true s.length
 have l2:=afY (clN m.roads s true s.length) m.aa o o (by omega) (by omega) (by rw[cl];exact qv ho) m
 have cl2:=p9 (clN m.roads s true s.length) o false o.length
 rw[cl]at cl2 l2
 unfold bY
 generalize s.any (fun x=>decide (x∈o))=c at*
 generalize clN (clN m.roads s true s.length) o false o.length=R2 at*
 generalize clN m.roads s true s.length=R1 at*
 obtain⟨aa,roads⟩:=m
 simp only[ae]at*
 cases c with
 | true=>
   rw[if_pos rfl]
   simp(disch:=omega)only[go_sem,K.bD,↓reduceIte,pv,r1,r2,cf,Bool.not_true,reduceAdd,reduceSub]
   rfl
 | false=>
   rw[if_neg (by simp)]
   simp(disch:=omega)only[go_sem,K.bD,↓reduceIte,pv,r1,r2,cf,Bool.not_true,k1,k2,reduceAdd,reduceSub]
   refine iz (l1 _ _ _ _ _ _ _ _ _ _ _) ?_
   simp(disch:=omega)only[go_sem,K.bD,↓reduceIte,reduceAdd,reduceSub]
   refine iz (l2 _ _ _ _ _ _ _ _ _ _ _ _) ?_
   simp(disch:=omega)only[go_sem,K.bD,↓reduceIte,reduceAdd,reduceSub]
theorem F5(m:aB)(hp:m.aa.length≤1000000)(hr:m.roads.length≤1000000):aD 0 N.dG [.t m.e,.t m.e] []=some (B true,[]):=by
 refine ao K.oB rfl ?_
 have l1:∀z0 z1 z4 z6:D,exS aD K.rT ⟨[z0,z1,.bp 0 0,.bp 1 0,z4,I 0,z6],[.box (ae m),.box (ae m)]⟩=
  some (.exit 0,⟨[.und,.und,.bp 0 0,.bp 1 0,.und,I m.aa.length,.und],[.box (ae m),.box (ae m)]⟩):=by
  intro z0 z1 z4 z6
  refine bk (fun j=>⟨[.und,.und,.bp 0 0,.bp 1 0,.und,I j,.und],[.box (ae m),.box (ae m)]⟩) m.aa.length rfl ?_ ?_ (by simp)
  · intro j hj
    have ex:(m.aa.map Place.e)[j]?=some (nth m.aa j).e:=b8 _ hj
    generalize nth m.aa j=x at*
    obtain⟨h,s⟩:=x
    obtain⟨aa,roads⟩:=m
    simp only[ae]at*
    simp(disch:=omega)only[go_sem,K.mO,↓reduceIte,ex,decide_true,Bool.and_self,Bool.not_true,reduceAdd,reduceSub]
  · obtain⟨aa,roads⟩:=m
    simp only[ae]at*
    simp(disch:=omega)only[go_sem,K.mO,↓reduceIte,reduceAdd,reduceSub]
 have l2:∀z0 z1 z4 z5:D,exS aD K.rU ⟨[z0,z1,.bp 0 0,.bp 1 0,z4,z5,I 0],[.box (ae m),.box (ae m)]⟩=
  some (.exit 2,⟨[.und,.und,.bp 0 0,.bp 1 0,.und,.und,I m.roads.length],[.box (ae m),.box (ae m)]⟩):=by
  intro z0 z1 z4 z5
  refine bk (fun j=>⟨[.und,.und,.bp 0 0,.bp 1 0,.und,.und,I j],[.box (ae m),.box (ae m)]⟩) m.roads.length rfl ?_ ?_ (by simp)
  · intro j hj
    have ex:(m.roads.map Road.e)[j]?=some (nth m.roads j).e:=b8 _ hj
    generalize nth m.roads j=x at*
    obtain⟨frm,to,len,ar,walk,closed,rl,rh,ll,lh⟩:=x
    obtain⟨aa,roads⟩:=m
    simp only[ae]at*
    simp(disch:=omega)only[go_sem,K.mP,↓reduceIte,ex,decide_true,Bool.and_self,Bool.not_true,reduceAdd,reduceSub]
  · obtain⟨aa,roads⟩:=m
    simp only[ae]at*
    simp(disch:=omega)only[go_sem,K.mP,↓reduceIte,reduceAdd,reduceSub]
 obtain⟨aa,roads⟩:=m
 simp only[ae]at*
 simp(disch:=omega)only[go_sem,K.dG,↓reduceIte,l1,l2,reduceAdd,reduceSub]
theorem RU{m n:aB}(hm:m.ok)(hn:n.ok){e:Esc}(h1:e.ok m)(h2:e.ok n)(hl:n.aa.length=m.aa.length)(p:Nat)(hp:p<m.aa.length):
 aD 0 N.bg [I p,.bp 0 0,.bp 1 0,.bp 2 0] [.box (ae m),.box (dZ e),.box (ae n)]=some (B (aN m e p&& !aN n e p),[.box (ae m),.box (dZ e),.box (ae n)]):=by
 refine ao K.jb rfl ?_
 have e1:=wm hm h1 p hp
 have e2:=wm hn h2 p (by omega)
 generalize aN m e p=a at*
 generalize aN n e p=b at*
 obtain⟨aa,roads⟩:=m
 obtain⟨pl2,rd2⟩:=n
 obtain⟨safe,bad,shut,bj⟩:=e
 simp only[ae,dZ]at*
 cases a<;>cases b
 all_goals simp(disch:=omega)only[go_sem,K.bg,↓reduceIte,e1,e2,Bool.not_true,Bool.not_false,Bool.and_false,Bool.and_true,Bool.false_and,Bool.true_and,reduceAdd,reduceSub]
theorem Vd{m n:aB}(hm:m.ok)(hn:n.ok){e:Esc}(h1:e.ok m)(h2:e.ok n)(hl:n.aa.length=m.aa.length):
 aD 0 N.cg [.t m.e,.t n.e,.t e.e] []=some (.t (tL (b9 m.aa.length fun p=>aN m e p&& !aN n e p)),[]):=by
 refine ao K.kj rfl ?_
 have np:=hm.np
 have v1:=oa hm h1
 have v2:=oa hn h2
 have wh:=Fs m.aa.length (by omega) N.bg [[.sl (m.aa.map Place.e),.sl (m.roads.map Road.e)],[tL e.safe,tL e.bad,tL e.shut,tI e.bj],[.sl (n.aa.map Place.e),.sl (n.roads.map Road.e)]] (fun p=>aN m e p&& !aN n e p) (fun k hk=>RU hm hn h1 h2 hl k hk)
 have wh:aD 0 N.eU [I m.aa.length,.fn N.bg [.bp 0 0,.bp 1 0,.bp 2 0]] [.box (ae m),.box (dZ e),.box (ae n)]=some (.t (tL (b9 m.aa.length fun p=>aN m e p&& !aN n e p)),[.box (ae m),.box (dZ e),.box (ae n)]):=wh
 generalize (b9 m.aa.length fun p=>aN m e p&& !aN n e p)=r at*
 obtain⟨aa,roads⟩:=m
 obtain⟨pl2,rd2⟩:=n
 obtain⟨safe,bad,shut,bj⟩:=e
 simp only[ae,dZ]at*
 simp(disch:=omega)only[go_sem,K.cg,↓reduceIte,v1,v2,wh,Bool.not_true,reduceAdd,reduceSub]
theorem RV{d:aG}(hd:d.dQ)(k n:Int)(h0:0≤k)(hk:k≤1000)(h1:1≤n)(hn:n≤1000):
 ∃(b:Bool) (d2:aG) (x:Int) (d3:aG),aD 0 N.cK [.bp 0 0,I k] [d.obj]=some (B b,[d2.obj])∧(b=true∧aD 0 N.aC [.bp 0 0,I n] [d2.obj]=some (I x,[d3.obj])∨b=false∧d2=d3)∧d3.dQ∧0≤x∧x<n:=by
 obtain⟨b,d2,c2,l2⟩:=akd hd k h0 (by omega)
 obtain⟨x,d3,c3,l3,x0,x1⟩:=QG l2 n h1 (by omega)
 cases b with
 | true=>exact⟨true,d2,x,d3,c2,.inl ⟨rfl,c3⟩,l3,x0,x1⟩
 | false=>exact⟨false,d2,x,d2,c2,.inr ⟨rfl,rfl⟩,l2,x0,x1⟩
theorem Dm{b:Bool}{x n:Int}(h0:0≤x)(h1:x<n):lr (if b=true then [x]else []) n=true:=by
 cases b with
 | true=>exact afE h0 h1
 | false=>rfl
theorem Ve{d:aG}(hd:d.dQ){m:aB}(hm:m.ok)(h1:1≤m.aa.length)(h2:1≤m.roads.length):
 ∃(e:Esc) (d':aG),aD 0 N.dH [.bp 0 0,.t m.e] [d.obj]=some (.t e.e,[d'.obj])∧d'.dQ∧e.ok m∧e.bj≤1000∧e.safe.length≤1∧e.bad.length≤1∧e.shut.length≤1:=by
 have np:=hm.np
 have nr:=hm.nr
 obtain⟨lim,d1,c1,l1,m1⟩:=alf hd [600,100,60,1000,0] (by simp) (by simp)
 have lm:0≤lim∧lim≤1000:=by
  simp only[List.mem_cons,List.not_mem_nil,or_false]at m1
  omega
 have c1:aD 0 N.cR [.bp 0 0,.t (.sl [tI 600,tI 100,tI 60,tI 1000,tI 0])] [d.obj]=some (I lim,[d1.obj]):=c1
 obtain⟨b1,d2,x1,d3,a1,a2,l3,x10,x11⟩:=RV l1 3 m.aa.length (by omega) (by omega) (by omega) (by omega)
 obtain⟨b2,d4,x2,d5,a4,a5,l5,x20,x21⟩:=RV l3 4 m.aa.length (by omega) (by omega) (by omega) (by omega)
 obtain⟨b3,d6,x3,d7,a7,a8,l7,x30,x31⟩:=RV l5 4 m.roads.length (by omega) (by omega) (by omega) (by omega)
 refine⟨⟨if b1=true then [x1]else [],if b2=true then [x2]else [],if b3=true then [x3]else [],lim⟩,d7,?_,l7,⟨Dm x10 x11,Dm x20 x21,Dm x30 x31,lm.1,by simp only;omega⟩,lm.2,?_,?_,?_⟩
 · refine ao K.mW rfl ?_
   obtain⟨aa,roads⟩:=m
   simp only[ae]at*
   have r0:(0:Int)<roads.length:=by omega
   rcases a2 with⟨rfl,a2⟩ | ⟨rfl,a2⟩<;>rcases a5 with⟨rfl,a5⟩ | ⟨rfl,a5⟩<;>rcases a8 with⟨rfl,a8⟩ | ⟨rfl,a8⟩
   all_goals
    simp(disch:=omega)only[go_sem,K.dH,↓reduceIte,c1,a1,a2,a4,a5,a7,a8,r0,reduceAdd,reduceSub]
    rfl
 · cases b1<;>simp
 · cases b2<;>simp
 · cases b3<;>simp
end Go.Ev
