/- Parts of the proof: see the text that holds the theorem. -/
import Derived.Test.YtifghciaddehaaaGreatZ4
set_option linter.all false
open Nat (reduceAdd reduceSub)
set_option maxRecDepth 100000
namespace Go.Ev
open Go
variable [Lib] [bX] [bJ] [fR] [fS]
theorem uA{α β γ:Type}{f:β→Option γ}{g:α→β}{h:α→γ}:∀ {l:List α},(∀x∈l,f (g x)=some (h x))→cg f (l.map g)=some (l.map h)
 | [],_=>rfl
 | a::l,hh=>by
   have ih:=uA (f:=f) (g:=g) (h:=h) (l:=l) fun x hx=>hh x (List.mem_cons_of_mem _ hx)
   simp only[List.map_cons,cg,hh a List.mem_cons_self,aLq,ih,aLw]
theorem Hj{α:Type}(f g:Nat→α):∀n,(List.range n).flatMap (fun i=>[f i,g i])=(List.range (2*n)).map (fun k=>if k % 2=0 then f (k / 2)else g (k / 2))
 | 0=>rfl
 | n+1=>by
   have e:2*(n+1)=2*n+1+1:=by omega
   have e1:(2*n) % 2=0:=by omega
   have e2:¬(2*n+1) % 2=0:=by omega
   have e3:(2*n) / 2=n:=by omega
   have e4:(2*n+1) / 2=n:=by omega
   rw[List.range_succ,List.flatMap_append,Hj f g n,e,List.range_succ,List.range_succ,List.map_append,List.map_append]
   simp only[List.map_cons,List.map_nil,List.flatMap_cons,List.flatMap_nil,if_pos e1,if_neg e2,e3,e4,List.append_assoc,List.append_nil,List.cons_append,List.nil_append]
def Ty(s:Nat)(ws:List World)(i:Nat):D:= .agg [.ref (s+2*i+1) 0 (nth ws i).tags.length,.ref (s+2*i+2) 0 (nth ws i).whr.length]
def EW(ws:List World)(k:Nat):Obj:=if k % 2=0 then .arr 1 false 0 (ints (nth ws (k / 2)).tags)else .arr 2 false 0 (whs (nth ws (k / 2)).whr)
def cpH(s:Nat)(ws:List World):aq:= .arr 2 false 0 ((List.range ws.length).map (Ty s ws))::(List.range (2*ws.length)).map (EW ws)
theorem K5(f:Nat→Option Nat)(ws:List World)(k:Nat):gn f (EW ws k)=some (EW ws k):=by
 unfold EW
 split<;>simp only[gn,ints,whs,IM,aLw]
theorem VJ(s:Nat)(ws:List World):cg (gn (dy [] s)) (cpH 0 ws)=some (cpH s ws):=by
 have e1:∀i:Nat,dy [] s (0+2*i+1)=some (s+2*i+1):=fun i=>by simp[dy];omega
 have e2:∀i:Nat,dy [] s (0+2*i+2)=some (s+2*i+2):=fun i=>by simp[dy];omega
 have h1:cg (ren (dy [] s) depth) ((List.range ws.length).map (Ty 0 ws))=some ((List.range ws.length).map (Ty s ws)):=uA fun i _=>by
  simp only[Ty,depth,ren,cg,e1,e2,aLw,aLq]
 have h2:cg (gn (dy [] s)) ((List.range (2*ws.length)).map (EW ws))=some ((List.range (2*ws.length)).map (EW ws)):=uA fun k _=>K5 _ ws k
 unfold cpH
 simp only[cg,gn,h1,h2,aLw,aLq]
def vK(n:Nat):List Nat:=(List.range (2*n)).map (fun k=>if k % 2=0 then 4+3*(k / 2)else 5+3*(k / 2))
theorem Jp(n:Nat):([3]++vK n).Nodup:=by
 have h:(vK n).Pairwise (· < ·):=by
  unfold vK
  rw[List.pairwise_map]
  refine List.Pairwise.imp (fun{a b} hab=>?_) List.pairwise_lt_range
  have:a<b:=hab
  split<;>split<;>omega
 rw[List.singleton_append,List.nodup_cons]
 refine⟨fun hm=>?_,List.Pairwise.imp (fun{a b} hab=>Nat.ne_of_lt hab) h⟩
 unfold vK at hm
 obtain⟨k,_,hk⟩:=List.mem_map.1 hm
 split at hk<;>omega
theorem Hk(n k:Nat)(h:k<2*n):([3]++vK n)[k+1]?=some (if k % 2=0 then 4+3*(k / 2)else 5+3*(k / 2)):=by
 unfold vK
 rw[List.singleton_append,List.getElem?_cons_succ,aLn,aLp h];rfl
theorem MI(H:aq)(ws:List World)(h3:H[3]?=some (.arr 2 false 0 ((List.range ws.length).map (fun i=>D.agg [.ref (4+3*i) 0 (nth ws i).tags.length,.ref (5+3*i) 0 (nth ws i).whr.length]))))
 (ha:∀i,i<ws.length→H[4+3*i]?=some (.arr 1 false 0 (ints (nth ws i).tags))) (hb:∀i,i<ws.length→H[5+3*i]?=some (.arr 2 false 0 (whs (nth ws i).whr))):
 finish 0 2 H [.agg [.ref 3 0 ws.length]]=some (.agg [.ref 0 0 ws.length],cpH 0 ws):=by
 have hold:([D.agg [.ref 3 0 ws.length]].all (old 0 depth)&&(H.take 0).all (fun o=>o.ds.all (old 0 depth)))=false:=by simp[old,depth]
 have nd:=Jp ws.length
 have hids:lx H [3]=vK ws.length:=by
  simp only[lx,List.flatMap_cons,List.flatMap_nil,List.append_nil,h3,Obj.ds,List.flatMap_map]
  simp only[ids,depth,List.flatMap_cons,List.flatMap_nil,List.append_nil,List.cons_append,List.nil_append]
  exact Hj _ _ _
 have hpick:pick H (vK ws.length)=some ((List.range (2*ws.length)).map (EW ws)):=by
  refine B8 (by unfold vK;simp) fun k i o hk ho=>?_
  unfold vK at hk
  rw[aLn]at hk ho
  have hl:k<2*ws.length:=by
   cases hr:(List.range (2*ws.length))[k]? with
   | none=>rw[hr]at hk;simp at hk
   | some v=>have:=(aLe.1 hr).1;simpa using this
  rw[aLp hl]at hk ho
  simp only[aLw,Option.some.injEq]at hk ho
  subst hk;subst ho
  unfold EW
  split
  · exact ha _ (by omega)
  · exact hb _ (by omega)
 have hch:(((List.range (2*ws.length)).map (EW ws)).flatMap fun o=>o.ds.flatMap (gI H depth))=[]:=by
  rw[List.flatMap_eq_nil_iff]
  intro o ho
  obtain⟨k,_,rfl⟩:=List.mem_map.1 ho
  unfold EW
  split<;>simp only[Obj.ds,ints,whs,OE]
 have hfz:cg (fq H) ((List.range (2*ws.length)).map (EW ws))=some ((List.range (2*ws.length)).map (EW ws)):=uA fun k _=>by
  have key:∀ts:List T,cg (fun d=>(frz H depth d).map D.t) (ts.map .t)=some (ts.map .t):=fun ts=>uA fun x _=>by simp only[adq,aLw]
  unfold EW
  split<;>simp only[fq,ints,whs,key,aLw]
 have hk:kK H (max 2 1) (List.range 0) ([D.agg [.ref 3 0 ws.length]].flatMap (ids depth)++lx H (List.range 0))=
  some ([3]++vK ws.length,.arr 2 false 0 ((List.range ws.length).map (fun i=>D.agg [.ref (4+3*i) 0 (nth ws i).tags.length,.ref (5+3*i) 0 (nth ws i).whr.length]))::(List.range (2*ws.length)).map (EW ws)):=by
  have e1:[D.agg [.ref 3 0 ws.length]].flatMap (ids depth)++lx H (List.range 0)=[3]:=by simp[ids,depth,lx]
  have hnew:(eW [] [3]).drop 0=[3]:=by simp[eW]
  have hm:max 2 1=1+1:=rfl
  rw[e1,hm]
  simp only[List.range_zero]
  unfold kK
  simp only[List.length_nil,hnew,pick,h3,aLq,aLw,Nat.one_ne_zero,if_false]
  unfold kK
  simp only[List.nil_append,hids,vm _ _ nd,List.length_singleton,List.drop_left',hpick,aLq,if_true,hch,List.all_nil,hfz,kK,aLw,List.append_nil,List.singleton_append,List.drop_one,List.tail_cons]
 unfold finish
 rw[if_neg (by omega),aLq,hold,if_neg (by simp),hk]
 have i0:idxOf ([3]++vK ws.length) 3=some 0:=rfl
 have iA:∀i,i<ws.length→idxOf ([3]++vK ws.length) (4+3*i)=some (0+2*i+1):=fun i hi=>by
  have g:=Hk ws.length (2*i) (by omega)
  rw[if_pos (by omega),show 4+3*(2*i / 2)=4+3*i by omega]at g
  rw[show 0+2*i+1=2*i+1 by omega]
  exact pN _ _ _ nd g
 have iB:∀i,i<ws.length→idxOf ([3]++vK ws.length) (5+3*i)=some (0+2*i+2):=fun i hi=>by
  have g:=Hk ws.length (2*i+1) (by omega)
  rw[if_neg (by omega),show 5+3*((2*i+1) / 2)=5+3*i by omega]at g
  rw[show 0+2*i+2=2*i+1+1 by omega]
  exact pN _ _ _ nd g
 have hes:cg (ren (idxOf ([3]++vK ws.length)) depth) ((List.range ws.length).map (fun i=>D.agg [.ref (4+3*i) 0 (nth ws i).tags.length,.ref (5+3*i) 0 (nth ws i).whr.length]))=some ((List.range ws.length).map (Ty 0 ws)):=uA fun i hi=>by
  have hi:=aLu.1 hi
  simp only[Ty,depth,ren,cg,iA i hi,iB i hi,aLw,aLq]
 have hob:cg (gn (idxOf ([3]++vK ws.length))) ((List.range (2*ws.length)).map (EW ws))=some ((List.range (2*ws.length)).map (EW ws)):=uA fun k _=>K5 _ ws k
 simp only[depth]at hes
 simp only[aLq,List.range_zero,List.nil_append,List.take_zero,jP,Nat.succ_ne_zero,if_false,List.all_nil,if_true,cg,gn,hes,hob,ren,depth,i0,aLw,wG,cpH]
theorem aeB{H t:aq}{i k:Nat}{o:Obj}(h:i<H.length):(H.set k o++t)[i]?=(H.set k o)[i]?:=aLg (by rw[List.length_set];exact h)
theorem aeC{H t:aq}{i k:Nat}{o o':Obj}(h:i<H.length):(H.set k o++t).set i o'=(H.set k o).set i o'++t:=List.set_append_left _ _ (by rw[List.length_set];exact h)
theorem MJ(l:List World)(h1:l.length≤1000000)(h2:∀x∈l,x.sz)(a:D):∃q,exS aH K.s5 ⟨[a,.bp 0 0,.bp 1 0,.bp 2 0,I 0],[.box [.t (tX l)],.box [.nil],.box [.ref 3 0 0],.arr 2 false 0 []]⟩=some q∧
 ∃H,q=(.exit 0,⟨[.und,.bp 0 0,.bp 1 0,.bp 2 0,I l.length],H⟩)∧H[1]?=some (.box [.nil])∧H[2]?=some (.box [.ref 3 0 l.length])∧
  H[3]?=some (.arr 2 false 0 ((List.range l.length).map (fun i=>D.agg [.ref (4+3*i) 0 (nth l i).tags.length,.ref (5+3*i) 0 (nth l i).whr.length])))∧
  (∀i,i<l.length→H[4+3*i]?=some (.arr 1 false 0 (ints (nth l i).tags)))∧(∀i,i<l.length→H[5+3*i]?=some (.arr 2 false 0 (whs (nth l i).whr))):=by
 refine Bf (fun j st=>∃H,st=⟨[.und,.bp 0 0,.bp 1 0,.bp 2 0,I j],H⟩∧H.length=4+3*j∧H[0]?=some (.box [.t (tX l)])∧H[1]?=some (.box [.nil])∧H[2]?=some (.box [.ref 3 0 j])∧
  H[3]?=some (.arr 2 false 0 ((List.range j).map (fun i=>D.agg [.ref (4+3*i) 0 (nth l i).tags.length,.ref (5+3*i) 0 (nth l i).whr.length])))∧
  (∀i,i<j→H[4+3*i]?=some (.arr 1 false 0 (ints (nth l i).tags)))∧(∀i,i<j→H[5+3*i]?=some (.arr 2 false 0 (whs (nth l i).whr)))) l.length _ ?_ ?_ ?_
 · exact⟨_,rfl,rfl,rfl,rfl,rfl,rfl,fun i hi=>absurd hi (by omega),fun i hi=>absurd hi (by omega)⟩
 · rintro j st hj ⟨H,rfl,hlen,e0,e1,e2,e3,hA,hB⟩
   have g:(l.map World.e)[j]?=some (nth l j).e:=bR _ hj
   have c:=my (nth l j) (h2 _ (ai hj))
   have rs:(List.range (j+1)).map (fun i=>D.agg [.ref (4+3*i) 0 (nth l i).tags.length,.ref (5+3*i) 0 (nth l i).whr.length])=(List.range j).map (fun i=>D.agg [.ref (4+3*i) 0 (nth l i).tags.length,.ref (5+3*i) 0 (nth l i).whr.length])++[D.agg [.ref (4+3*j) 0 (nth l j).tags.length,.ref (5+3*j) 0 (nth l j).whr.length]]:=by
    rw[List.range_succ,List.map_append];rfl
   have el:((List.range j).map (fun i=>D.agg [.ref (4+3*i) 0 (nth l i).tags.length,.ref (5+3*i) 0 (nth l i).whr.length])).length=j:=by simp
   generalize (List.range j).map (fun i=>D.agg [.ref (4+3*i) 0 (nth l i).tags.length,.ref (5+3*i) 0 (nth l i).whr.length])=es at*
   have n1:4+3*j=H.length:=hlen.symm
   have n2:5+3*j=H.length+1:=by omega
   rw[n1,n2]at rs
   refine⟨⟨[.und,.bp 0 0,.bp 1 0,.bp 2 0,I (j+1)],(H.set 3 (.arr 2 false 0 (es++[D.agg [.ref H.length 0 (nth l j).tags.length,.ref (H.length+1) 0 (nth l j).whr.length]]))).set 2 (.box [.ref 3 0 (j+1)])++[.arr 1 false 0 (ints (nth l j).tags),.arr 2 false 0 (whs (nth l j).whr),.arr 2 false 0 [D.agg [.ref H.length 0 (nth l j).tags.length,.ref (H.length+1) 0 (nth l j).whr.length]]]⟩,?_,_,rfl,?_⟩
   · generalize hx:nth l j=x at*
     obtain⟨tags,whr⟩:=x
     simp only[ints,whs]at*
     clear rs hA hB
     simp(disch:=omega)only[go_sem,K.m5,↓reduceIte,reduceAdd,reduceSub,g,c,e0,e1,e2,e3,el,kQ,lJ,jK,Pa,oI,Mf,vn,aeB,aeC,fv,List.length_set,Nat.add_assoc,Nat.sub_zero]
   · have old_:∀(o o':Obj) (t:aq) (i:Nat),i<H.length→i≠2→i≠3→((H.set 3 o).set 2 o'++t)[i]?=H[i]?:=fun o o' t i h1 h2 h3=>by
      rw[aLg (by simp;exact h1),fv (fun e=>h2 e.symm),fv (fun e=>h3 e.symm)]
     have new_:∀(o o':Obj) (t:aq) (k:Nat),((H.set 3 o).set 2 o'++t)[H.length+k]?=t[k]?:=fun o o' t k=>by
      rw[aLh (by simp)];simp
     refine⟨by simp;omega,?_,?_,?_,?_,?_,?_⟩
     · rw[old_ _ _ _ 0 (by omega) (by omega) (by omega)];exact e0
     · rw[old_ _ _ _ 1 (by omega) (by omega) (by omega)];exact e1
     · rw[aLg (by simp;omega),lK (by simp;omega)]
     · rw[aLg (by simp;omega),fv (by omega),lK (by omega),rs]
     · intro i hi
       by_cases c:i<j
       · rw[old_ _ _ _ _ (by omega) (by omega) (by omega)];exact hA i c
       · have:i=j:=by omega
         subst this
         rw[n1,show H.length=H.length+0 from rfl,new_];rfl
     · intro i hi
       by_cases c:i<j
       · rw[old_ _ _ _ _ (by omega) (by omega) (by omega)];exact hB i c
       · have:i=j:=by omega
         subst this
         rw[n2,new_];rfl
 · rintro st ⟨H,rfl,hlen,e0,e1,e2,e3,hA,hB⟩
   refine⟨(.exit 0,⟨[.und,.bp 0 0,.bp 1 0,.bp 2 0,I l.length],H⟩),?_,by simp,H,rfl,e1,e2,e3,hA,hB⟩
   simp(disch:=omega)only[go_sem,K.m5,↓reduceIte,reduceAdd,reduceSub,e0]
theorem Jq(b:Bel)(h:b.sz):aH 2 N.fQ [.t b.e] []=some (.agg [.ref 0 0 b.ao.length],cpH 0 b.ao):=by
 refine av K.o7 rfl ?_
 obtain⟨h1,h2⟩:=h
 obtain⟨q,hq,H,rfl,e1,e2,e3,hA,hB⟩:=MJ b.ao h1 h2 (.t b.e)
 have fin:=MI (H.set 1 (.box [.ref 3 0 b.ao.length])) b.ao (by rw[fv (by omega)];exact e3) (fun i hi=>by rw[fv (by omega)];exact hA i hi) (fun i hi=>by rw[fv (by omega)];exact hB i hi)
 have hl:=nu e1
 obtain⟨l⟩:=b
 simp only at*
 simp(disch:=omega)only[go_sem,K.fQ,↓reduceIte,hq,e1,e2,lK,fin,reduceAdd,reduceSub]
def Tz(l:List Int)(t:Int):Nat→List Int
 | 0=>l
 | p+1=>if t<nth (Tz l t p) p then(Tz l t p).set p never else Tz l t p
def TA(m:aC)(w:Wh)(t:Int):Wh:=⟨t,dE m t none (Tz w.frm t w.frm.length)⟩
theorem Hl{H H':aq}:∀(k:Nat) (d:D),(∀i∈gI H k d,∃sz pin pin' ep es,H[i]?=some (.arr sz pin ep es)∧H'[i]?=some (.arr sz pin' ep es))→frz H' k d=frz H k d∧gI H' k d=gI H k d:=by
 intro k
 induction k with
 | zero=>intro d _;cases d<;>exact⟨rfl,rfl⟩
 | succ k ih=>
   intro d h
   have list:∀es:List D,(∀i∈es.flatMap (gI H k),∃sz pin pin' ep es,H[i]?=some (.arr sz pin ep es)∧H'[i]?=some (.arr sz pin' ep es))→cg (frz H' k) es=cg (frz H k) es∧es.flatMap (gI H' k)=es.flatMap (gI H k):=by
    intro es
    induction es with
    | nil=>intro _;exact⟨rfl,rfl⟩
    | cons e es ihl=>
      intro he
      obtain⟨a1,a2⟩:=ih e fun i hi=>he i (by simp[hi])
      obtain⟨b1,b2⟩:=ihl fun i hi=>he i (by rw[List.flatMap_cons];exact List.mem_append_right _ hi)
      exact⟨by simp only[cg,a1,b1],by simp only[List.flatMap_cons,a2,b2]⟩
   cases d with
   | agg cs=>
     simp only[gI]at h
     obtain⟨a1,a2⟩:=list cs h
     exact⟨by simp only[frz,a1],by simp only[gI,a2]⟩
   | ref id ep n=>
     obtain⟨sz,pin,pin',ep',es,e1,e2⟩:=h id (by simp[gI])
     have:∀i∈es.flatMap (gI H k),∃sz pin pin' ep es,H[i]?=some (.arr sz pin ep es)∧H'[i]?=some (.arr sz pin' ep es):=fun i hi=>h i (by simp only[gI,e1];exact List.mem_cons_of_mem _ hi)
     obtain⟨a1,a2⟩:=list es this
     refine⟨?_,by simp only[gI,e1,e2,a2]⟩
     simp only[frz,iQ,e1,e2]
     by_cases c:ep=ep'∧n=es.length
     · simp only[if_pos c,aLq,a1]
     · simp only[if_neg c,Option.bind_none]
   | sub id ep n lo hi=>
     obtain⟨sz,pin,pin',ep',es,e1,e2⟩:=h id (by simp[gI])
     have:∀i∈es.flatMap (gI H k),∃sz pin pin' ep es,H[i]?=some (.arr sz pin ep es)∧H'[i]?=some (.arr sz pin' ep es):=fun i hi=>h i (by simp only[gI,e1];exact List.mem_cons_of_mem _ hi)
     obtain⟨a1,a2⟩:=list es this
     have:∀i∈((es.drop lo).take (hi-lo)).flatMap (gI H k),∃sz pin pin' ep es,H[i]?=some (.arr sz pin ep es)∧H'[i]?=some (.arr sz pin' ep es):=fun i hi=>by
      obtain⟨e,he,hi⟩:=List.mem_flatMap.1 hi
      exact this i (List.mem_flatMap.2 ⟨e,List.mem_of_mem_drop (List.mem_of_mem_take he),hi⟩)
     obtain⟨b1,b2⟩:=list _ this
     refine⟨?_,by simp only[gI,e1,e2,a2]⟩
     simp only[frz,iQ,e1,e2]
     by_cases c:ep=ep'∧n=es.length
     · simp only[if_pos c,aLq,b1]
     · simp only[if_neg c,Option.bind_none]
   | _=>exact⟨rfl,rfl⟩
theorem D4{α β:Type}{f g:α→List β}:∀ {l:List α},(∀x∈l,f x=g x)→l.flatMap f=l.flatMap g
 | [],_=>rfl
 | a::l,h=>by rw[List.flatMap_cons,List.flatMap_cons,h a List.mem_cons_self,D4 fun x hx=>h x (List.mem_cons_of_mem _ hx)]
theorem Rp.akP{H:aq}{id:Nat}{es:List D}{fa fb:Nat→Nat}{out:List World}(hr:Rp H id es fa fb out)(k:Nat):
 Go.Ev.frz H (k+4) (.ref id 0 out.length)=some (.sl (out.map World.e))∧gI H (k+4) (.ref id 0 out.length)=id::(List.range out.length).flatMap (fun j=>[fa j,fb j]):=by
 have hl:=hr.len
 have key:∀(j:Nat) (hj:j<out.length),Go.Ev.frz H (k+3) (.agg [.ref (fa j) 0 (nth out j).tags.length,.ref (fb j) 0 (nth out j).whr.length])=some (nth out j).e∧
  gI H (k+3) (.agg [.ref (fa j) 0 (nth out j).tags.length,.ref (fb j) 0 (nth out j).whr.length])=[fa j,fb j]:=by
  intro j hj
  have h1:=hr.ha j hj
  have h2:=hr.hb j hj
  simp(disch:=omega)only[go_sem,h1,h2,ints,whs,↓reduceIte]
 have hes:es=(List.range out.length).map (fun j=>D.agg [.ref (fa j) 0 (nth out j).tags.length,.ref (fb j) 0 (nth out j).whr.length]):=by
  refine List.ext_getElem? fun j=>?_
  by_cases c:j<out.length
  · rw[hr.el j c,aLn,aLp c];rfl
  · rw[aLm (by omega),aLm (by simp;omega)]
 have hout:out.map World.e=(List.range out.length).map (fun j=>(nth out j).e):=by
  refine List.ext_getElem? fun j=>?_
  by_cases c:j<out.length
  · rw[bR _ c,aLn,aLp c];rfl
  · rw[aLm (by simp;omega),aLm (by simp;omega)]
 constructor
 · simp only[Go.Ev.frz,iQ,hr.arr]
   rw[if_pos (by simp[hl]),aLq,hes,hout]
   rw[uA (h:=fun j=>(nth out j).e) fun j hj=>(key j (aLu.1 hj)).1];rfl
 · simp only[gI,hr.arr,hes,List.flatMap_map]
   congr 1
   refine D4 fun j hj=>(key j (aLu.1 hj)).2
section
variable {bm : aC} (hm : bm.ok) {t : Int} (i : Nat) {H : aq} {io iB iO n a fbi tl : Nat} {es : List D} {whr : List Wh} (e1 : H[iO]? = some (.box [.ref io 0 n])) (e2 : H[io]? = some (.arr 2 false 0 es)) (e3 : es.length = n)
 (e4:es[i]?=some (.agg [.ref a 0 tl,.ref fbi 0 whr.length])) (e5:H[fbi]?=some (.arr 2 false 0 (whs whr))) (e6:H[iB]?=some (.box (ae bm))) (hi:i<n) (hn:n≤1000000) (hl:whr.length≤1000000)
include hm e1 e2 e3 e4 e5 e6 hi hn hl
end
theorem Rp.app{H:aq}{id:Nat}{es:List D}{fa fb:Nat→Nat}{out:List World}(hr:Rp H id es fa fb out)(t:aq):Rp (H++t) id es fa fb out:=
 ⟨by rw[kQ (nu hr.arr)];exact hr.arr,hr.len,hr.el,fun j hj=>by rw[kQ (nu (hr.ha j hj))];exact hr.ha j hj,fun j hj=>by rw[kQ (nu (hr.hb j hj))];exact hr.hb j hj,hr.na,hr.nb,hr.nab,hr.nbb⟩
structure SlH(H:aq)(b:List World)(bm:aC)(iB iO io:Nat)(es:List D)(fa fb:Nat→Nat)(A:List Nat)(O:List World):Prop where
 h1:H[1]?=some (.box [.ref 3 0 b.length])
 h2:H[2]?=some (.box [.nil])
 hB:H[iB]?=some (.box (ae bm))
 hO:H[iO]?=some (.box [.ref io 0 O.length])
 rp:Rp H io es fa fb O
 ar:∀i∈A,∃sz pin ep es,H[i]?=some (.arr sz pin ep es)
 nA:∀i∈A,∀j,j<O.length→i≠fb j
 eA:gI H 7 (.ref 3 0 b.length)=A
 fr:frz H 7 (.ref 3 0 b.length)=some (.sl (b.map World.e))
theorem SlH.step{H:aq}{b:List World}{bm:aC}{iB iO io:Nat}{es:List D}{fa fb:Nat→Nat}{A:List Nat}{O:List World}(h:SlH H b bm iB iO io es fa fb A O){i:Nat}(hi:i<O.length)(x:World)(ht:(nth O i).tags=x.tags)
 (hw:x.whr.length=(nth O i).whr.length) (o:Obj):SlH (H.set (fb i) (.arr 2 false 0 (whs x.whr))++[o]) b bm iB iO io es fa fb A (O.set i x):=by
 have hb:=h.rp.hb i hi
 have nb:∀ {k:Nat} {cs:List D},H[k]?=some (.box cs)→(H.set (fb i) (.arr 2 false 0 (whs x.whr))++[o])[k]?=some (.box cs):=fun{k cs} hk=>by
  have ne:fb i≠k:=fun e=>by rw[e,hk]at hb;cases hb
  rw[kQ (by rw[List.length_set];exact nu hk),fv ne];exact hk
 have na:∀k∈A,(H.set (fb i) (.arr 2 false 0 (whs x.whr))++[o])[k]?=H[k]?:=fun k hk=>by
  obtain⟨sz,pin,ep,es',e⟩:=h.ar k hk
  rw[kQ (by rw[List.length_set];exact nu e),fv (fun e=>h.nA k hk i hi e.symm)]
 have fc:=Hl (H:=H) (H':=H.set (fb i) (.arr 2 false 0 (whs x.whr))++[o]) 7 (.ref 3 0 b.length) (fun k hk=>by
  rw[h.eA]at hk
  obtain⟨sz,pin,ep,es',e⟩:=h.ar k hk
  exact⟨sz,pin,pin,ep,es',e,by rw[na k hk];exact e⟩)
 refine⟨nb h.h1,nb h.h2,nb h.hB,by rw[List.length_set];exact nb h.hO,(h.rp.merge hi x ht hw).app _,fun k hk=>?_,by rw[List.length_set];exact h.nA,by rw[fc.2];exact h.eA,by rw[fc.1];exact h.fr⟩
 obtain⟨sz,pin,ep,es',e⟩:=h.ar k hk
 exact⟨sz,pin,ep,es',by rw[na k hk];exact e⟩
def SlE(b:List World)(H:aq):Prop:=H[2]?=some (.box [.ref 3 0 b.length])∧frz H 7 (.ref 3 0 b.length)=some (.sl (b.map World.e))
theorem SlH.late{H:aq}{b:List World}{bm:aC}{iB iO io:Nat}{es:List D}{fa fb:Nat→Nat}{A:List Nat}{O:List World}(h:SlH H b bm iB iO io es fa fb A O)(o:Obj):SlE b (H.set 2 (.box [.ref 3 0 b.length])++[o]):=by
 have l2:=nu h.h2
 have fc:=Hl (H:=H) (H':=H.set 2 (.box [.ref 3 0 b.length])++[o]) 7 (.ref 3 0 b.length) (fun k hk=>by
  rw[h.eA]at hk
  obtain⟨sz,pin,ep,es',e⟩:=h.ar k hk
  have ne:2≠k:=fun e2=>by rw[← e2,h.h2]at e;cases e
  exact⟨sz,pin,pin,ep,es',e,by rw[kQ (by rw[List.length_set];exact nu e),fv ne];exact e⟩)
 exact⟨by rw[kQ (by rw[List.length_set];exact l2),lK l2],by rw[fc.1];exact h.fr⟩
end Go.Ev
namespace Go.Ev
open Go
variable [Lib] [bX] [bJ] [fR] [fS]
theorem K6(H:aq)(ws:List World)(n:Nat):zi H (.agg [.ref 0 0 n],cpH 0 ws)=some (.agg [.ref H.length 0 n],H++cpH H.length ws):=by
 have e:zi H (.agg [.ref 0 0 n],cpH 0 ws)=(ren (dy [] H.length) depth (.agg [.ref 0 0 n])).bind fun r'=>(cg (gn (dy [] H.length)) (cpH 0 ws)).map fun os=>(r',H++os):=by
  unfold zi
  rw[if_neg (by simp[cpH])]
 rw[e,VJ]
 simp[ren,depth,cg,dy]
theorem K7(H H1:aq)(ws:List World)(n:Nat):wV H H1 [] (.agg [.ref 0 0 n],cpH 0 ws)=some (.agg [.ref H.length 0 n],H1++cpH H.length ws):=by
 have e:wV H H1 [] (.agg [.ref 0 0 n],cpH 0 ws)=Gz H1 H.length [] (.agg [.ref 0 0 n],cpH 0 ws):=by
  unfold wV
  rw[if_neg (by simp[cpH])]
 have e2:ren (dy [] H.length) 8 (.agg [.ref 0 0 n])=some (.agg [.ref H.length 0 n]):=by simp[ren,cg,dy]
 rw[e,Ez,e2,aLq]
 unfold SB
 rw[VJ]
 simp[OL,dR]
theorem Y8{a b t:aq}:(a++b++t)[a.length+b.length]?=t[0]?:=by
 rw[aLh (by simp)];simp
def rpA(fa fb:Nat→Nat)(n:Nat):List Nat:=(List.range n).flatMap (fun j=>[fa j,fb j])
theorem Rp.in6{H:aq}{id:Nat}{es:List D}{fa fb:Nat→Nat}{out:List World}(hr:Rp H id es fa fb out):cg (Go.Ev.frz H 6) es=some (out.map World.e)∧zj H 6 es=rpA fa fb out.length:=by
 obtain⟨h1,h2⟩:=hr.akP 3
 constructor
 · simp only[Go.Ev.frz,iQ,hr.arr]at h1
   rw[if_pos (by simp[hr.len]),aLq]at h1
   obtain⟨x,hx,he⟩:=aLb.1 h1
   cases he
   exact hx
 · simp only[gI,hr.arr]at h2
   exact(List.cons.inj h2).2
theorem CA(s:Nat)(ws:List World):(cpH s ws).length=2*ws.length+1:=by simp[cpH]
theorem K8{X:aq}{s:Nat}(hs:X.length=s)(ws:List World)(t:aq){k:Nat}(hk:k<2*ws.length):(X++cpH s ws++t)[s+k+1]?=some (EW ws k):=by
 subst hs
 rw[List.append_assoc,aLh (by omega),show X.length+k+1-X.length=k+1 by omega,aLg (by rw[CA];omega)]
 unfold cpH
 rw[List.getElem?_cons_succ,aLn,aLp hk];rfl
theorem aja{X:aq}{s:Nat}(hs:X.length=s)(ws:List World)(t:aq):Rp (X++cpH s ws++t) s ((List.range ws.length).map (Ty s ws)) (fun j=>s+2*j+1) (fun j=>s+2*j+2) ws where
 arr:=by
  subst hs
  rw[List.append_assoc,aLh (aLs _),Nat.sub_self];rfl
 len:=by simp
 el:=fun j hj=>by rw[aLn,aLp hj];rfl
 ha:=fun j hj=>by
  have:=K8 hs ws t (k:=2*j) (by omega)
  rw[this]
  unfold EW
  rw[if_pos (by omega),show 2*j / 2=j by omega]
 hb:=fun j hj=>by
  have:=K8 hs ws t (k:=2*j+1) (by omega)
  rw[show s+2*j+2=s+(2*j+1)+1 by omega,this]
  unfold EW
  rw[if_neg (by omega),show(2*j+1) / 2=j by omega]
 na:=fun j _=>by omega
 nb:=fun j _=>by omega
 nab:=fun i j _ _=>by omega
 nbb:=fun i j _ _ h=>by omega
end Go.Ev
namespace Go.Ev
open Go
variable [Lib] [bX] [bJ] [fR] [fS] [iK] [fy] [fo] [gU] [fM] [cV] [cI] [fB] [eu] [jb] [iE]
theorem MK(l:List Place)(hl:l.length≤1000000):aH 0 N.aM [.t (.sl (l.map Place.e))] []=some (.t (.sl (l.map Place.e)),[]):=by
 refine av K.eh rfl ?_
 by_cases h0:l=[]
 · subst h0
   simp only[List.map_nil]
   simp(disch:=omega)only[go_sem,K.aM,↓reduceIte,List.map_nil,reduceAdd,reduceSub]
 · have e:=fun H=>A7 H (l.map Place.e) (by simpa using h0)
   simp(disch:=omega)only[go_sem,K.aM,↓reduceIte,e,reduceAdd,reduceSub]
theorem ML(l:List Road)(hl:l.length≤1000000):aH 1 N.aN [.t (.sl (l.map Road.e))] []=some (.ref 0 0 l.length,[.arr 10 false 0 ((l.map Road.e).map .t)]):=by
 refine av K.fh rfl ?_
 by_cases h0:l=[]
 · subst h0
   simp only[List.map_nil]
   simp(disch:=omega)only[go_sem,K.aN,↓reduceIte,List.map_nil,List.length_nil,reduceAdd,reduceSub]
 · have e:=fun H=>A7 H (l.map Road.e) (by simpa using h0)
   simp(disch:=omega)only[go_sem,K.aN,↓reduceIte,e,reduceAdd,reduceSub]
end Go.Ev
namespace Go.Ev
open Go
variable [Lib]
structure Edge where
 r:Nat
 a:Nat
 b:Nat
 t:Int
structure Lab where
 t:Int
 r:Int
 deriving DecidableEq
instance : Dat Edge := ⟨⟨0, 0, 0, 0⟩⟩
instance : Dat Lab := ⟨⟨0, 0⟩⟩
def nV(x y:Lab):Bool:=decide (x.t<y.t)||(decide (x.t=y.t)&&decide (x.r<y.r))
theorem q8{x y:Lab}:nV x y=true↔x.t<y.t∨x.t=y.t∧x.r<y.r:=by
 simp[nV]
theorem zF{x y:Lab}:nV x y=false↔¬(x.t<y.t∨x.t=y.t∧x.r<y.r):=by
 rw[← q8,Bool.not_eq_true]
def qu(L:List Lab)(e:Edge):Lab:=⟨(nth L e.b).t+e.t,(nth L e.b).r+1⟩
def FM(F:Int)(u:Edge→Bool)(L:List Lab)(e:Edge):Bool:=u e&&decide ((nth L e.b).t<F)&&nV (qu L e) (nth L e.a)
def NH(F:Int)(u:Edge→Bool)(L:List Lab)(e:Edge):List Lab:=if FM F u L e then L.set e.a (qu L e)else L
def sD(F:Int)(u:Edge→Bool)(E:List Edge)(L:List Lab)(c:Bool):Nat→List Lab×Bool
 | 0=>(L,c)
 | j+1=>(NH F u (sD F u E L c j).1 (nth E j),(sD F u E L c j).2||FM F u (sD F u E L c j).1 (nth E j))
structure C8(F:Int)(n:Nat)(L:List Lab):Prop where
 l:L.length=n
 t0:∀p,p<n→0≤(nth L p).t
 t1:∀p,p<n→(nth L p).t≤F
 r0:∀p,p<n→0≤(nth L p).r
 r1:∀p,p<n→(nth L p).r≤(nth L p).t
def Edge.ok(n:Nat)(e:Edge):Prop:=e.a<n∧e.b<n∧1≤e.t∧e.t≤1000000
def wL(F:Int)(x:Lab):Nat:=(x.t*(F+1)+x.r).toNat
def RS(F:Int)(L:List Lab):Nat:=(L.map (wL F)).sum
theorem Ql(f:Lab→Nat):∀(L:List Lab) (i:Nat) (x:Lab),i<L.length→f x<f (nth L i)→((L.set i x).map f).sum<(L.map f).sum
 | [],i,x,h,_=>absurd h (by simp)
 | y::L,0,x,_,h=>by
   simp only[List.set_cons_zero,List.map_cons,List.sum_cons]
   have:nth (y::L) 0=y:=rfl
   rw[this]at h
   omega
 | y::L,i+1,x,h,h2=>by
   simp only[List.set_cons_succ,List.map_cons,List.sum_cons]
   have e:nth (y::L) (i+1)=nth L i:=rfl
   rw[e]at h2
   have:=Ql f L i x (by simpa using h) h2
   omega
theorem sE{L:List Lab}{i j:Nat}{a:Lab}(h:j≠i):nth (L.set j a) i=nth L i:=by
 unfold nth
 simp only[aLl,aLi h]
theorem xm{L:List Lab}{i:Nat}{a:Lab}(h:i<L.length):nth (L.set i a) i=a:=bD (aLj h)
theorem ajb{F:Int}{x y:Lab}(h:nV x y=true)(h0:0≤x.t)(h1:x.t≤F)(h2:0≤x.r)(h3:x.r≤x.t)(h4:0≤y.r):wL F x<wL F y:=by
 unfold wL
 rw[q8]at h
 have p0:0≤x.t*(F+1):=Int.mul_nonneg h0 (by omega)
 have key:x.t*(F+1)+x.r<y.t*(F+1)+y.r:=by
  rcases h with h | ⟨h,h'⟩
  · have:(x.t+1)*(F+1)≤y.t*(F+1):=Int.mul_le_mul_of_nonneg_right (by omega) (by omega)
    rw[Int.add_mul]at this
    omega
  · rw[h];omega
 omega
theorem Qm{F:Int}{n:Nat}{u:Edge→Bool}{L:List Lab}(h:C8 F n L){e:Edge}(he:e.ok n):C8 F n (NH F u L e)∧(FM F u L e=true→RS F (NH F u L e)<RS F L):=by
 unfold NH
 cases hc:FM F u L e with
 | false=>exact⟨by simpa using h,by simp⟩
 | true=>
   simp only[if_true]
   unfold FM at hc
   simp only[aLr,decide_eq_true_eq]at hc
   obtain⟨⟨-,c2⟩,c3⟩:=hc
   obtain⟨ha,hb,ht,ht2⟩:=he
   have q:=c3
   rw[q8]at q
   have b0:=h.t0 _ hb
   have b1:=h.r0 _ hb
   have b2:=h.r1 _ hb
   have a1:=h.t1 _ ha
   have a0:=h.r0 _ ha
   have ct:(qu L e).t=(nth L e.b).t+e.t:=rfl
   have cr:(qu L e).r=(nth L e.b).r+1:=rfl
   refine⟨⟨by rw[List.length_set];exact h.l,?_,?_,?_,?_⟩,fun _=>Ql (wL F) L e.a _ (by rw[h.l];exact ha) (ajb c3 (by omega) (by omega) (by omega) (by omega) a0)⟩
   all_goals
    intro p hp
    by_cases c:p=e.a
    · subst c
      rw[xm (by rw[h.l];exact ha)]
      omega
    · rw[sE (fun h=>c h.symm)]
      first | exact h.t0 p hp | exact h.t1 p hp | exact h.r0 p hp | exact h.r1 p hp
theorem Aw{F:Int}{n:Nat}{u:Edge→Bool}{E:List Edge}(hE:∀e∈E,e.ok n){L:List Lab}(h:C8 F n L):∀j,j≤E.length→C8 F n (sD F u E L false j).1∧RS F (sD F u E L false j).1≤RS F L∧
 ((sD F u E L false j).2=true→RS F (sD F u E L false j).1<RS F L)∧((sD F u E L false j).2=false→(sD F u E L false j).1=L∧∀i,i<j→FM F u L (nth E i)=false)
 | 0,_=>⟨h,aLs _,by simp[sD],fun _=>⟨rfl,fun i hi=>absurd hi (Nat.not_lt_zero _)⟩⟩
 | j+1,hj=>by
   obtain⟨a,b,c,d⟩:=Aw hE h j (by omega)
   have eo:=hE _ (ai (show j<E.length by omega))
   obtain⟨f,g⟩:=Qm (u:=u) a eo
   simp only[sD]
   cases hc:FM F u (sD F u E L false j).1 (nth E j)with
   | true=>
     have:=g hc
     refine⟨f,by omega,fun _=>by omega,by simp⟩
   | false=>
     have e:NH F u (sD F u E L false j).1 (nth E j)=(sD F u E L false j).1:=by unfold NH;rw[hc];rfl
     rw[e,Bool.or_false]
     refine⟨a,b,c,fun h2=>?_⟩
     obtain⟨d1,d2⟩:=d h2
     refine⟨d1,fun i hi=>?_⟩
     by_cases ci:i=j
     · rw[ci,←d1];exact hc
     · exact d2 i (by omega)
structure VK(F:Int)(n:Nat)(E:List Edge)(u:Edge→Bool)(Z:Nat→Bool)(L:List Lab):Prop extends C8 F n L where
 z:∀p,p<n→Z p=true→nth L p=⟨0,0⟩
 w:∀p,p<n→(nth L p).t<F→Z p=true∨∃e∈E,u e=true∧e.a=p∧(nth L e.b).t<F∧nV (nth L p) (qu L e)=false
theorem aeD{F:Int}{n:Nat}{u:Edge→Bool}{E:List Edge}{Z:Nat→Bool}(hE:∀e∈E,e.ok n)(hz:∀e∈E,u e=true→Z e.a=false){L:List Lab}(h:VK F n E u Z L){e:Edge}(he:e∈E):VK F n E u Z (NH F u L e):=by
 have I:=(Qm (u:=u) h.toC8 (hE e he)).1
 refine⟨I,?_,?_⟩
 all_goals unfold NH at I ⊢
 all_goals cases hc:FM F u L e with
  | false=>
    simp only[aLt,if_false]
    first | exact h.z | exact h.w
  | true=>
    rw[hc]at I
    simp only[if_true]at I ⊢
    unfold FM at hc
    simp only[aLr,decide_eq_true_eq]at hc
    obtain⟨⟨c1,c2⟩,c3⟩:=hc
    obtain⟨ha,hb,ht,ht2⟩:=hE e he
    have ll:=h.l
    intro p hp
    rw[q8]at c3
    have ct:(qu L e).t=(nth L e.b).t+e.t:=rfl
    have cr:(qu L e).r=(nth L e.b).r+1:=rfl
    first
    | intro hZ
      by_cases c:p=e.a
      · subst c;rw[hz e he c1]at hZ;cases hZ
      · rw[sE (fun h=>c h.symm)];exact h.z p hp hZ
    | intro hF
      have dec:∀q,q<n→(nth (L.set e.a (qu L e)) q).t≤(nth L q).t∧((nth (L.set e.a (qu L e)) q).t=(nth L q).t→(nth (L.set e.a (qu L e)) q).r≤(nth L q).r):=by
       intro q hq
       by_cases c:q=e.a
       · subst c
         rw[xm (by omega)]
         refine⟨by omega,fun h=>by omega⟩
       · rw[sE (fun h=>c h.symm)];exact⟨Int.le_refl _,fun _=>Int.le_refl _⟩
      have cand:∀f:Edge,f.b<n→nV (qu L f) (qu (L.set e.a (qu L e)) f)=false:=by
       intro f hf
       have:=dec f.b hf
       rw[zF]
       unfold qu at*
       simp only at*
       omega
      have ne:e.b≠e.a∨e.b=e.a:=by omega
      by_cases c:p=e.a
      · right
        subst c
        have hF':=hF
        rw[xm (by omega)]at hF' ⊢
        have db:=dec e.b hb
        refine⟨e,he,c1,rfl,by omega,?_⟩
        have:=cand e hb
        exact this
      · rw[sE (fun h=>c h.symm)]at hF ⊢
        rcases h.w p hp hF with h1 | ⟨f,hf,f1,f2,f3,f4⟩
        · exact .inl h1
        · right
          have fb:=(hE f hf).2.1
          have db:=dec f.b fb
          have cf:=cand f fb
          refine⟨f,hf,f1,f2,by omega,?_⟩
          rw[zF]at f4 cf ⊢
          omega
theorem Qn{F:Int}{n:Nat}{u:Edge→Bool}{E:List Edge}{Z:Nat→Bool}(hE:∀e∈E,e.ok n)(hz:∀e∈E,u e=true→Z e.a=false){L:List Lab}(h:VK F n E u Z L)(c:Bool):∀j,j≤E.length→VK F n E u Z (sD F u E L c j).1
 | 0,_=>h
 | j+1,hj=>aeD hE hz (Qn hE hz h c j (by omega)) (ai (by omega))
theorem D5{α:Type}(f:α→α×Bool)(mes:α→Nat)(P Q:α→Prop)(h1:∀l,P l→P (f l).1∧((f l).2=true→mes (f l).1<mes l))(h2:∀l,P l→(f l).2=false→Q (f l).1):∀(k:Nat) (l:α),P l→mes l<k→Q (ja f k l)
 | 0,l,_,h=>absurd h (Nat.not_lt_zero _)
 | k+1,l,hp,hm=>by
   obtain⟨a,b⟩:=h1 l hp
   unfold ja
   cases hc:(f l).2 with
   | true=>simp only[if_true];exact D5 f mes P Q h1 h2 k _ a (by have:=b hc;omega)
   | false=>simp only[aLt,if_false];exact h2 l hp hc
structure K9(F:Int)(n:Nat)(E:List Edge)(u:Edge→Bool)(Z:Nat→Bool)(L:List Lab):Prop extends VK F n E u Z L where
 fx:∀e∈E,FM F u L e=false
def La(F:Int)(u:Edge→Bool)(E:List Edge)(L:List Lab):List Lab:=ja (fun L=>sD F u E L false E.length) (RS F L+1) L
theorem Lb{F:Int}{n:Nat}{u:Edge→Bool}{E:List Edge}{Z:Nat→Bool}(hE:∀e∈E,e.ok n)(hz:∀e∈E,u e=true→Z e.a=false){L:List Lab}(h:VK F n E u Z L):K9 F n E u Z (La F u E L):=by
 refine D5 _ (RS F) (VK F n E u Z) _ (fun l hl=>⟨Qn hE hz hl _ _ (aLs _),(Aw hE hl.toC8 _ (aLs _)).2.2.1⟩) (fun l hl hc=>?_) _ _ h (Nat.lt_succ_self _)
 obtain⟨-, -, -,d⟩:=Aw (u:=u) hE hl.toC8 _ (aLs _)
 obtain⟨d1,d2⟩:=d hc
 refine⟨Qn hE hz hl _ _ (aLs _),fun e he=>?_⟩
 obtain⟨i,hi,rfl⟩:=List.getElem_of_mem he
 have:=d2 i hi
 rw[bD (aLc hi)]at this
 rw[d1]
 exact this
theorem Lc(F:Int)(u:Edge→Bool)(A B:List Edge)(L:List Lab)(c:Bool):∀j,j≤B.length→sD F u (A++B) L c (A.length+j)=sD F u B (sD F u A L c A.length).1 (sD F u A L c A.length).2 j
 | 0,_=>by
   have:∀k,k≤A.length→sD F u (A++B) L c k=sD F u A L c k:=by
    intro k
    induction k with
    | zero=>intro _;rfl
    | succ k ih=>
      intro hk
      have e:nth (A++B) k=nth A k:=by
       unfold nth;simp only[aLl];rw[aLg (by omega)]
      simp only[sD,ih (by omega),e]
   rw[Nat.add_zero,this _ (aLs _)]
   rfl
 | j+1,hj=>by
   have e:nth (A++B) (A.length+j)=nth B j:=by
    unfold nth;simp only[aLl];rw[aLh (by omega),Nat.add_sub_cancel_left]
   rw[← Nat.add_assoc]
   simp only[sD,Lc F u A B L c j (by omega),e]
theorem K9.eqn{F:Int}{n:Nat}{E:List Edge}{u:Edge→Bool}{Z:Nat→Bool}{L:List Lab}(h:K9 F n E u Z L)(hE:∀e∈E,e.ok n){p:Nat}(hp:p<n)(hf:(nth L p).t<F)(hz:Z p=false):∃e∈E,u e=true∧e.a=p∧(nth L e.b).t<F∧nth L p=qu L e:=by
 rcases h.w p hp hf with h1 | ⟨e,he,e1,e2,e3,e4⟩
 · rw[hz]at h1;cases h1
 · refine⟨e,he,e1,e2,e3,?_⟩
   have fx:=h.fx e he
   unfold FM at fx
   rw[e1,decide_eq_true e3,e2]at fx
   simp only[Bool.true_and]at fx
   rw[zF]at fx e4
   have:∀x y:Lab,x.t=y.t→x.r=y.r→x=y:=fun x y a b=>by
    cases x;cases y;simp only at a b;rw[a,b]
   exact this _ _ (by omega) (by omega)
theorem Qo{p q:Nat→Bool}(h:∀x,p x=true→q x=true){l:List Nat}{x:Nat}(hx:x∈l)(h1:q x=true)(h2:p x=false):l.countP p<l.countP q:=by
 have le:∀l:List Nat,l.countP p≤l.countP q:=fun l=>List.countP_mono_left (fun x _ hp=>h x hp)
 induction l with
 | nil=>cases hx
 | cons a l ih=>
   rw[List.countP_cons,List.countP_cons]
   have:=le l
   rcases List.mem_cons.1 hx with rfl | hx
   · rw[h1,h2];simp;omega
   · have:=ih hx
     cases hp:p a with
     | true=>rw[h a hp];simp;omega
     | false=>simp;omega
theorem K9.time{F:Int}{n:Nat}{E:List Edge}{u:Edge→Bool}{Z:Nat→Bool}{L:List Lab}(h:K9 F n E u Z L)(hE:∀e∈E,e.ok n){p:Nat}(hp:p<n)(hf:(nth L p).t<F):(nth L p).t≤(n:Int)*1000000:=by
 have key:∀(k:Nat) (p:Nat),p<n→(nth L p).t.toNat=k→(nth L p).t<F→(nth L p).t≤((List.range n).countP (fun x=>nV (nth L x) (nth L p)):Int)*1000000:=by
  intro k
  induction k using Nat.strongRecOn with
  | ind k ih=>
    intro p hp hk hf
    by_cases hz:Z p=true
    · rw[h.z p hp hz]
      have:0≤((List.range n).countP (fun x=>nV (nth L x) ⟨0,0⟩):Int)*1000000:=Int.mul_nonneg (Int.natCast_nonneg _) (by omega)
      exact this
    · obtain⟨e,he,e1,e2,e3,e4⟩:=h.eqn hE hp hf (by simpa using hz)
      obtain⟨o1,o2,o3,o4⟩:=hE e he
      have ct:(nth L p).t=(nth L e.b).t+e.t:=by rw[e4];rfl
      have cr:(nth L p).r=(nth L e.b).r+1:=by rw[e4];rfl
      have b0:=h.t0 _ o2
      have:=ih (nth L e.b).t.toNat (by omega) e.b o2 rfl e3
      have lt:(List.range n).countP (fun x=>nV (nth L x) (nth L e.b))<(List.range n).countP (fun x=>nV (nth L x) (nth L p)):=by
       refine Qo (fun x hx=>?_) (aLu.2 o2) ?_ ?_
       · rw[q8]at hx ⊢;omega
       · rw[q8];omega
       · rw[zF];omega
      generalize (List.range n).countP (fun x=>nV (nth L x) (nth L e.b))=c1 at*
      generalize (List.range n).countP (fun x=>nV (nth L x) (nth L p))=c2 at*
      omega
 have a:=key _ p hp rfl hf
 have b:(List.range n).countP (fun x=>nV (nth L x) (nth L p))≤n:=by
  have:=List.countP_le_length (p:=fun x=>nV (nth L x) (nth L p)) (l:=List.range n)
  simpa using this
 generalize (List.range n).countP (fun x=>nV (nth L x) (nth L p))=c at*
 omega
theorem VL{F1 F2:Int}{n:Nat}{E1 E2:List Edge}{u1 u2:Edge→Bool}{Z1 Z2:Nat→Bool}{L1 L2:List Lab}(h1:K9 F1 n E1 u1 Z1 L1)(h2:K9 F2 n E2 u2 Z2 L2)(k1:∀e∈E1,e.ok n)(k2:∀e∈E2,e.ok n)(R:Nat→Prop)
 (hE:∀e∈E1,u1 e=true→∃f∈E2,u2 f=true∧f.a=e.a∧f.b=e.b∧f.t=e.t) (hz:∀p,p<n→R p→Z1 p=true→Z2 p=true) (hR:∀e∈E1,u1 e=true→R e.b) (hF:(n:Int)*1000000<F2):
 ∀p,p<n→R p→(nth L1 p).t<F1→(nth L2 p).t<F2∧nV (nth L1 p) (nth L2 p)=false:=by
 have key:∀(k:Nat) (p:Nat),p<n→R p→(nth L1 p).t.toNat=k→(nth L1 p).t<F1→(nth L2 p).t<F2∧nV (nth L1 p) (nth L2 p)=false:=by
  intro k
  induction k using Nat.strongRecOn with
  | ind k ih=>
    intro p hp rp hk hf
    have tm:=h1.time k1 hp hf
    by_cases hz1:Z1 p=true
    · rw[h1.z p hp hz1,h2.z p hp (hz p hp rp hz1)]
      have n0:0≤(n:Int)*1000000:=Int.mul_nonneg (Int.natCast_nonneg _) (by omega)
      exact⟨by show(0:Int)<F2;omega,rfl⟩
    · obtain⟨e,he,e1,e2,e3,e4⟩:=h1.eqn k1 hp hf (by simpa using hz1)
      obtain⟨o1,o2,o3,o4⟩:=k1 e he
      have ct:(nth L1 p).t=(nth L1 e.b).t+e.t:=by rw[e4];rfl
      have cr:(nth L1 p).r=(nth L1 e.b).r+1:=by rw[e4];rfl
      have b0:=h1.t0 _ o2
      obtain⟨i1,i2⟩:=ih (nth L1 e.b).t.toNat (by omega) e.b o2 (hR e he e1) rfl e3
      obtain⟨f,hf2,f1,f2,f3,f4⟩:=hE e he e1
      have fx:=h2.fx f hf2
      unfold FM at fx
      rw[f1,f3,decide_eq_true i1,f2,e2]at fx
      simp only[Bool.true_and]at fx
      have c1:(qu L2 f).t=(nth L2 e.b).t+e.t:=by unfold qu;rw[f3,f4]
      have c2:(qu L2 f).r=(nth L2 e.b).r+1:=by unfold qu;rw[f3]
      rw[zF]at fx i2 ⊢
      omega
 exact fun p hp rp hf=>key _ p hp rp rfl hf
theorem aeE{F1 F2:Int}{n:Nat}{E1 E2:List Edge}{u1 u2:Edge→Bool}{Z1 Z2:Nat→Bool}{L1 L2:List Lab}(h1:K9 F1 n E1 u1 Z1 L1)(h2:K9 F2 n E2 u2 Z2 L2)(k1:∀e∈E1,e.ok n)(k2:∀e∈E2,e.ok n)(R:Nat→Prop)
 (hE:∀e∈E1,u1 e=true→∃f∈E2,u2 f=true∧f.a=e.a∧f.b=e.b∧f.t=e.t) (hE2:∀e∈E2,u2 e=true→∃f∈E1,u1 f=true∧f.a=e.a∧f.b=e.b∧f.t=e.t) (hz:∀p,p<n→R p→(Z1 p=true↔Z2 p=true)) (hR:∀e∈E1,u1 e=true→R e.b) (hR2:∀e∈E2,u2 e=true→R e.b)
 (hF1:(n:Int)*1000000<F1) (hF:(n:Int)*1000000<F2):
 ∀p,p<n→R p→((nth L1 p).t<F1↔(nth L2 p).t<F2)∧((nth L1 p).t<F1→nth L1 p=nth L2 p):=by
 intro p hp rp
 have a:=VL h1 h2 k1 k2 R hE (fun p hp rp=>(hz p hp rp).1) hR hF p hp rp
 have b:=VL h2 h1 k2 k1 R hE2 (fun p hp rp=>(hz p hp rp).2) hR2 hF1 p hp rp
 refine⟨⟨fun h=>(a h).1,fun h=>(b h).1⟩,fun h=>?_⟩
 have a2:=(a h).2
 have b2:=(b (a h).1).2
 rw[zF]at a2 b2
 have:∀x y:Lab,x.t=y.t→x.r=y.r→x=y:=fun x y a b=>by
  cases x;cases y;simp only at a b;rw[a,b]
 exact this _ _ (by omega) (by omega)
def CW(F:Int)(u:Edge→Bool)(E:List Edge)(s:List Lab×Bool):List Lab×Bool:=sD F u E s.1 s.2 E.length
theorem TC(F:Int)(u:Edge→Bool)(s:List Lab×Bool):CW F u [] s=s:=rfl
theorem Ld(F:Int)(u:Edge→Bool)(A B:List Edge)(s:List Lab×Bool):CW F u (A++B) s=CW F u B (CW F u A s):=by
 unfold CW
 rw[aLv,Lc F u A B s.1 s.2 B.length (aLs _)]
theorem TD(F:Int)(u:Edge→Bool)(e:Edge)(s:List Lab×Bool):CW F u [e] s=(NH F u s.1 e,s.2||FM F u s.1 e):=rfl
theorem Qp{F:Int}{n:Nat}{u:Edge→Bool}{E:List Edge}(hE:∀e∈E,e.ok n){s:List Lab×Bool}(h:C8 F n s.1):C8 F n (CW F u E s).1:=by
 have key:∀j,j≤E.length→C8 F n (sD F u E s.1 s.2 j).1:=by
  intro j
  induction j with
  | zero=>intro _;exact h
  | succ j ih=>intro hj;exact(Qm (ih (by omega)) (hE _ (ai (by omega)))).1
 exact key _ (aLs _)
def uC(u:Edge→Bool)(L:List Lab)(at':Nat)(e:Edge):Bool:=decide (e.a=at')&&u e&&decide (nth L e.b=⟨(nth L at').t-e.t,(nth L at').r-1⟩)
def Hm(u:Edge→Bool)(E:List Edge)(L:List Lab)(at':Nat):Option Edge:=E.find? (uC u L at')
def lW(Z:Nat→Bool)(u:Edge→Bool)(E:List Edge)(L:List Lab):Nat→Nat→List Edge
 | 0,_=>[]
 | k+1,p=>if Z p then []else match Hm u E L p with
   | some e=>e::lW Z u E L k e.b
   | none=>[]
def Hn:Nat→List Edge→Prop
 | _,[]=>True
 | p,e::l=>e.a=p∧Hn e.b l
def Y9:Nat→List Edge→Nat
 | p,[]=>p
 | _,e::l=>Y9 e.b l
theorem oJ{F:Int}{n:Nat}{E:List Edge}{u:Edge→Bool}{Z:Nat→Bool}{L:List Lab}(h:K9 F n E u Z L)(hE:∀e∈E,e.ok n){p:Nat}(hp:p<n)(hf:(nth L p).t<F)(hz:Z p=false):
 ∃e,Hm u E L p=some e∧e∈E∧u e=true∧e.a=p∧(nth L e.b).t<F∧(nth L e.b).t=(nth L p).t-e.t∧(nth L e.b).r=(nth L p).r-1:=by
 obtain⟨e,he,e1,e2,e3,e4⟩:=h.eqn hE hp hf hz
 have hs:uC u L p e=true:=by
  unfold uC
  rw[e1,e2,decide_eq_true rfl]
  have:nth L e.b=⟨(nth L p).t-e.t,(nth L p).r-1⟩:=by
   rw[e4]
   unfold qu
   simp only[Int.add_sub_cancel]
  rw[decide_eq_true this]
  rfl
 cases hc:Hm u E L p with
 | none=>
   have:=List.find?_eq_none.1 hc e he
   exact absurd hs this
 | some f=>
   have f1:=List.mem_of_find?_eq_some hc
   have f2:=List.find?_some hc
   unfold uC at f2
   simp only[aLr,decide_eq_true_eq]at f2
   obtain⟨⟨f3,f4⟩,f5⟩:=f2
   have ft:=(hE f f1).2.2.1
   refine⟨f,rfl,f1,f4,f3,?_,by rw[f5],by rw[f5]⟩
   rw[f5]
   simp only
   omega
structure VM(F:Int)(n:Nat)(E:List Edge)(u:Edge→Bool)(Z:Nat→Bool)(L:List Lab)(p:Nat)(l:List Edge):Prop where
 mem:∀e∈l,e∈E∧u e=true∧e.b<n
 chain:Hn p l
 fin:Z (Y9 p l)=true
 sum:(l.map Edge.t).sum=(nth L p).t
 low:∀e∈l,(nth L e.b).r<(nth L p).r
 dis:(l.map Edge.b).Nodup
theorem Qq{F:Int}{n:Nat}{E:List Edge}{u:Edge→Bool}{Z:Nat→Bool}{L:List Lab}(h:K9 F n E u Z L)(hE:∀e∈E,e.ok n):∀(k p:Nat),p<n→(nth L p).t<F→(nth L p).r.toNat≤k→VM F n E u Z L p (lW Z u E L k p)
 | 0,p,hp,hf,hk=>by
   have r0:=h.r0 p hp
   by_cases hz:Z p=true
   · refine⟨by simp[lW],trivial,hz,?_,by simp[lW],by simp[lW]⟩
     rw[h.z p hp hz];rfl
   · obtain⟨e,_,e1,_,_,_,_,e5⟩:=oJ h hE hp hf (by simpa using hz)
     have:=h.r0 e.b (hE e e1).2.1
     omega
 | k+1,p,hp,hf,hk=>by
   unfold lW
   by_cases hz:Z p=true
   · rw[if_pos hz]
     refine⟨by simp,trivial,hz,?_,by simp,by simp⟩
     rw[h.z p hp hz];rfl
   · rw[if_neg hz]
     obtain⟨e,e0,e1,e2,e3,e4,e5,e6⟩:=oJ h hE hp hf (by simpa using hz)
     have eb:=(hE e e1).2.1
     have br:=h.r0 e.b eb
     have i:=Qq h hE k e.b eb e4 (by omega)
     rw[e0]
     simp only
     refine⟨?_,⟨e3,i.chain⟩,i.fin,?_,?_,?_⟩
     · intro f hf'
       rcases List.mem_cons.1 hf' with rfl | hf'
       · exact⟨e1,e2,eb⟩
       · exact i.mem f hf'
     · rw[List.map_cons,List.sum_cons,i.sum];omega
     · intro f hf'
       rcases List.mem_cons.1 hf' with rfl | hf'
       · omega
       · have:=i.low f hf';omega
     · rw[List.map_cons,List.nodup_cons]
       refine⟨fun hm=>?_,i.dis⟩
       obtain⟨f,f1,f2⟩:=List.mem_map.1 hm
       have:=i.low f f1
       rw[f2]at this
       omega
end Go.Ev
namespace Go.Ev.N
def MM:Nat:=334
def NI:Nat:=335
def NJ:Nat:=336
def Za:Nat:=337
def MN:Nat:=338
def Zb:Nat:=339
def Zc:Nat:=340
def abL:Nat:=341
def Zd:Nat:=342
def abM:Nat:=343
def abN:Nat:=344
def agR:Nat:=345
def RT:Nat:=346
def Ze:Nat:=347
def abO:Nat:=348
def abP:Nat:=349
def Qr:Nat:=350
def TE:Nat:=351
def VN:Nat:=352
def VO:Nat:=353
def Zf:Nat:=354
def RU:Nat:=355
def abQ:Nat:=356
def abR:Nat:=357
def TF:Nat:=358
def VP:Nat:=359
def Zg:Nat:=360
def abS:Nat:=361
def Zh:Nat:=362
def TG:Nat:=363
def Zi:Nat:=364
def abT:Nat:=365
def abU:Nat:=366
def abV:Nat:=367
def abW:Nat:=368
def MO:Nat:=369
def qv:Nat:=370
def xD:Nat:=371
def TH:Nat:=372
def s9:Nat:=373
def TI:Nat:=374
def TJ:Nat:=375
def Zj:Nat:=376
def Zk:Nat:=377
def RV:Nat:=378
def ru:Nat:=379
def vA:Nat:=380
def Qs:Nat:=381
def TK:Nat:=382
def Qt:Nat:=383
end Go.Ev.N
namespace Go.Ev.N
def TL:Nat:=384
def RW:Nat:=385
def Qu:Nat:=386
def RX:Nat:=387
def Qv:Nat:=388
def Zl:Nat:=389
def Zm:Nat:=390
def abX:Nat:=391
def NK:Nat:=392
def Zn:Nat:=393
def Zo:Nat:=394
def NL:Nat:=395
def abY:Nat:=396
def NM:Nat:=397
def MP:Nat:=398
def aeF:Nat:=399
def abZ:Nat:=400
def ab0:Nat:=401
def Qw:Nat:=402
def ab1:Nat:=403
def aeG:Nat:=404
def ab2:Nat:=405
def ab3:Nat:=406
def aeH:Nat:=407
def Le:Nat:=408
def Lf:Nat:=409
def ab4:Nat:=410
def aeI:Nat:=411
def VQ:Nat:=412
def FN:Nat:=413
def aeJ:Nat:=414
def D6:Nat:=415
end Go.Ev.N
namespace Go.Ev.N
def bB:Nat:=416
def Ib:Nat:=417
def Ic:Nat:=418
def Ho:Nat:=419
def ic:Nat:=420
def dw:Nat:=421
def bh:Nat:=422
def cX:Nat:=423
def bK:Nat:=424
def eZ:Nat:=425
def Zp:Nat:=426
def NN:Nat:=427
def cH:Nat:=428
def bE:Nat:=429
def aL:Nat:=430
def bO:Nat:=431
def jg:Nat:=432
def kW:Nat:=433
def gR:Nat:=434
def bL:Nat:=435
def gT:Nat:=436
def dM:Nat:=437
def dq:Nat:=438
def Zq:Nat:=439
def Zr:Nat:=440
def VR:Nat:=441
def Zs:Nat:=442
def iL:Nat:=443
def bM:Nat:=444
def gx:Nat:=445
def fT:Nat:=446
def fK:Nat:=447
def ie:Nat:=448
def eU:Nat:=449
def dV:Nat:=450
def j4:Nat:=451
def nf:Nat:=452
def aeK:Nat:=453
def bC:Nat:=454
def bc:Nat:=455
def gN:Nat:=456
def jh:Nat:=457
def jN:Nat:=458
def iF:Nat:=459
def bW:Nat:=460
def aD:Nat:=461
def dC:Nat:=462
def ji:Nat:=463
def cj:Nat:=464
def gO:Nat:=465
def cW:Nat:=466
def ax:Nat:=467
def aE:Nat:=468
def b8:Nat:=469
def kX:Nat:=470
def eG:Nat:=471
end Go.Ev.N
namespace Go.Ev.K
open Go.Ev
def iM:C:= (.seq (.ite [m v13,m v11,u (.ln l0),u (.bin .lss l2 l0)] [] 0 .skip (.exit 0)) (.seq (.blk 1 (.ite [m v8,m v11,m v13,a 1 l1 l0,g l0,u (.ca N.cZ 0 [] [.l 4,.l 0])] [] 0 (q [x 1 (.b false)] [] .ret) .skip)) (.reg [m v13,u (.bin .add l0 (.i 1)),x 13 l0] [])))
def lM:C:= .loop true [0,1,2,4,5,6,7,9,12,14,15,16,17,18] K.iM
def fU:C:= (.seq (.ite [m v18,m v17,u (.ln l0),u (.bin .lss l2 l0)] [] 0 .skip (.exit 4)) (.seq (.blk 5 (.ite [h 2 v10,h 4 v5,m v17,m v18,a 1 l1 l0,g l0,u (.ca N.cX 0 [] [.l 5,.l 4,.l 0]),u (.un .not l0),m l0,e 0 true v8,e 1 true v17,e 2 true v18,y 3 true (.ia l1 l0 1),i 4 true l0,y 5 true (.ca N.cZ 0 [] [.l 4,.l 0]),y 6 true (.un .not l0),e 7 true l0,e 0 false v11,e 1 false v17,e 2 false v18,y 3 false (.ia l1 l0 1),i 4 false l0,y 5 false (.ca N.cZ 0 [] [.l 4,.l 0]),y 6 false (.un .not l0),y 15 true (.pk l7 (.b true) l0),u (.pk (.l 16) l0 (.b false))] [] 0 (q [x 1 (.b false)] [] .ret) .skip)) (.reg [m v18,u (.bin .add l0 (.i 1)),x 18 l0] [])))
def lN:C:= .loop true [0,1,2,3,9,12,13] K.fU
def iN:C:= (.seq (.ite [m v16,f 0 v4,g l0,a 2 l0 (.i 0),f 0 l0,g l0,u (.ln l0),u (.bin .lss l6 l0)] [] 0 .skip (.exit 2)) (.seq (.blk 3 (q [h 1 v14,m v16,m v6,m v7,u (.bin .add l1 l0),u (.ca N.ez 0 [] [.l 4,.l 3,.l 0]),x 17 l0] [] (q [x 18 (.i 0)] [] (.blk 4 K.lN)))) (.reg [m v16,u (.bin .add l0 (.i 1)),x 16 l0] [])))
def lO:C:= .loop true [0,1,2,3,9,12,13,17,18] K.iN
def bB:Fn:= { aP:=1,vars:=[0,2,3,4,5,6,7,8,9,10,11,12,13,14,15,16,17,18,19],body:=(q [x 1 (.b false)] [] (.seq (.ite [m v0,u (.ca N.jD 0 [] [.l 0]),u (.un .not l0)] [] 0 (q [u (.ca N.ic 0 [] []),x 1 l0] [] .ret) .skip) (q [m v0,u (.ca N.kO 0 [] [.l 0]),x 2 l0] [] (q [m v2,u (.ca N.du 0 [] [.l 0]),w 3 (.al [.nil,.nil] []),u (.st l0 l1 2 [])] [] (q [w 4 (.al [.nil] []),w 5 (.al [.nil,.nil,.nil,z0] []),m v2,h 2 v3,u (.ca N.cP 0 [] [.l 1,.l 0]),m v2,h 2 v3,u (.ca N.dw 0 [] [.l 1,.l 0]),u (.st l7 l3 1 []),u (.st l7 l1 4 [])] [(0,5),(0,8),(1,5),(1,8),(6,2)] (q [h 1 v4,u (.ca N.kR 0 [] [.l 0]),m v2,u (.ca N.aB 0 [] [.l 0,.i 100]),u (.bin .add l2 l0),m v2,u (.bs [.i 0,.i 30] 1),u (.ca N.cK 0 [] [.l 1,.l 0]),x 6 l3,x 7 l1] [] (q [m v2,f 0 v3,g l0,u (.ln l0),u (.ca N.cT 0 [] [.l 3,.l 0]),x 8 l0] [] (q [m v2,f 1 v3,g l0,u (.ln l0),u (.ca N.aB 0 [] [.l 3,.l 0]),u (.bs [.l 0] 1),x 9 l0] [] (q [h 2 v3,h 4 v5,h 1 v4,m v9,m v8,m v6,m v7,u (.ca N.bh 0 [] [.l 6,.l 5,.l 4,.l 3,.c (.nil),.l 2,.l 1,.l 0]),m l0,u (.ex l0 0),u (.ex l1 1),u (.ex l2 2),w 10 (.al [.nil,.nil] []),u (.st l0 l3 2 []),x 11 l3,x 12 l3] [] (.seq (.ite [m v12,u (.bin .eql l0 (.i 46))] [] 0 (.seq (q [x 13 (.i 0)] [] (.blk 0 K.lM)) (q [u (.ca N.ic 0 [] []),m l0,e 0 true v11,y 1 true (.ln l0),y 2 true (.bin .gtr l0 (.i 0)),u (.pk l3 l0 (.b false)),m l0,y 0 true (.ld v10 2 true),y 1 true (.ld v3 2 true),y 2 true (.ca N.eE 0 [] [.l 1,.l 0]),u (.pk l3 l0 (.b false)),x 1 l0] [] .ret)) .skip) (.seq (.ite [m v12,u (.bin .neq l0 (.i 0)),m l0,y 0 false (.fa v10 1),i 1 false l0,y 2 false (.ln l0),y 3 false (.fa v3 1),i 4 false l0,y 5 false (.ln l0),y 6 false (.bin .neq l3 l0),u (.pk l7 (.b true) l0),m l0,y 0 false (.fa v10 1),i 1 false l0,e 2 false v9,y 3 false (.ia l0 (.i 0) 1),i 4 false l0,y 5 false (.ia l3 l0 10),y 6 false (.fa l0 5),i 7 false l0,y 8 false (.un .not l0),u (.pk l9 (.b true) l0)] [] 0 (q [x 1 (.b false)] [] .ret) .skip) (q [h 2 v10,h 1 v4,m v6,u (.ca N.eO 0 [] [.l 2,.l 1,.l 0]),m l0,u (.ex l0 0),u (.ex l1 1),w 14 (.al [.nil] []),u (.st l0 l2 1 []),x 15 l2] [] (.seq (q [x 16 (.i 0)] [] (.blk 2 K.lO)) (q [u (.ca N.ic 0 [] []),m l0,e 0 true v15,y 1 true (.bin .eql l0 (.i 0)),u (.pk l2 l0 (.b false)),x 1 l0] [] .ret)))))))))))))),res:=[(1,none)]}
def ic:Fn:= { aP:=0,vars:=[0,1,2,3,4,5,7,9,10,11,12,13],body:=(q [x 0 (.b false)] [] (q [u (.bd [z0,z0] [(0,1,.i 1),(1,1,.i 1)]),u (.bd [z0,z0,z0,z0,z1,z1,z0,z0,z0,z0] [(2,1,.i 12),(3,1,.i 1),(4,1,.b true),(6,2,.l 0)]),w 1 (.al [z0,z0,z0,z0,z1,z1,z0,z0,z0,z0] []),u (.st l0 l1 10 [])] [] (q [w 2 (.al [z0,z0,z0,z0,z1,z1,z0,z0,z0,z0] []),w 3 (.al [z0,z0,z0,z0,z1,z1,z0,z0,z0,z0] []),h 10 v1,h 10 v1,u (.st l3 l1 10 []),u (.st l3 l1 10 [])] [(3,5)] (q [f 1 v2,u (.st l0 (.i 1) 1 []),f 0 v3,u (.st l0 (.i 1) 1 []),f 1 v3,u (.st l0 (.i 2) 1 [])] [] (q [u (.bd [z0,z1] [(1,1,.b true)]),u (.bd [z0,z1] []),u (.bd [z0,z1] [(1,1,.b true)]),u (.bs [.l 2,.l 1,.l 0] 2),h 10 v2,h 10 v3,u (.bs [.l 1,.l 0] 10),u (.bd [.nil,.nil] [(0,1,.l 3),(1,1,.l 0)]),w 4 (.al [.nil,.nil] []),u (.st l0 l1 2 [])] [] (q [h 2 v4,u (.bs [.i 4] 1),u (.bs [.i 1] 1),u (.ca N.dS 0 [] [.l 2,.l 1,.l 0,.i 0]),m l0,u (.ex l0 0),u (.ex l1 1),w 5 (.al [.nil] []),u (.st l0 l2 1 []),m l2] [] (q [u (.bd [.nil,.nil,.nil,z0] [(3,1,.i 1000)]),w 6 (.al [.nil,.nil,.nil,z0] []),u (.st l0 l1 4 [])] [] (q [h 2 v4,h 4 v6,h 1 v5,u (.bs [.i 1] 1),u (.ca N.bh 0 [] [.l 3,.l 2,.l 1,.l 0,.c (.nil),.c (.nil),.i 5,.i 0]),m l0,u (.ex l0 0),u (.ex l1 1),u (.ex l2 2),u (.al [.nil,.nil] []),u (.st l0 l3 2 []),x 7 l3,x 8 l3] [] (q [h 2 v4,h 4 v6,h 1 v5,u (.bs [.i 1] 1),u (.bs [.i 1] 1),u (.ca N.bh 0 [] [.l 4,.l 3,.l 2,.l 1,.c (.nil),.l 0,.i 5,.i 0]),m l0,u (.ex l0 0),u (.ex l1 1),u (.ex l2 2),w 9 (.al [.nil,.nil] []),u (.st l0 l3 2 []),x 10 l3,x 11 l3] [] (q [m v8,u (.bin .eql l0 (.i 46)),m l0,e 0 true v7,y 1 true (.ln l0),y 2 true (.bin .eql l0 (.i 1)),u (.pk l3 l0 (.b false)),m l0,e 0 true v7,y 1 true (.ia l0 (.i 0) 1),i 2 true l0,y 3 true (.bin .eql l0 (.i 1)),u (.pk l4 l0 (.b false)),m l0,e 0 true v11,y 1 true (.bin .eql l0 (.i 0)),u (.pk l2 l0 (.b false)),m l0,e 0 true v10,y 1 true (.ln l0),y 2 true (.bin .eql l0 (.i 1)),u (.pk l3 l0 (.b false)),m l0,y 0 true (.fa v9 1),i 1 true l0,y 2 true (.ln l0),y 3 true (.bin .eql l0 (.i 2)),u (.pk l4 l0 (.b false)),m l0,y 0 true (.fa v9 1),i 1 true l0,y 2 true (.ia l0 (.i 1) 10),y 3 true (.fa l0 5),i 4 true l0,u (.pk l5 l0 (.b false)),m l0,y 0 true (.ld v4 2 true),y 1 true (.ld v9 2 true),y 2 true (.ld v6 4 true),y 3 true (.ca N.eZ 0 [] [.l 2,.l 1,.l 0]),y 4 true (.ln l0),y 5 true (.bin .eql l0 (.i 1)),u (.pk l6 l0 (.b false)),x 0 l0] [] .ret)))))))))),res:=[(0,none)]}
def dw:Fn:= { aP:=2,vars:=[0,1,3,4,5],body:=(q [w 2 (.bx v1 2),w 3 (.al [.nil,.nil,.nil,z0] [])] [] (q [m v0,u (.bs [.i 600,.i 100,.i 60,.i 1000,.i 0] 1),u (.ca N.cK 0 [] [.l 1,.l 0]),u (.bd [.nil,.nil,.nil,z0] [(3,1,.l 0)]),w 4 (.al [.nil,.nil,.nil,z0] []),u (.st l0 l1 4 [])] [] (.seq (.ite [m v0,u (.ca N.cB 0 [] [.l 0,.i 3])] [] 0 (.reg [m v0,f 0 v2,g l0,u (.ln l0),u (.ca N.aB 0 [] [.l 3,.l 0]),u (.bs [.l 0] 1),f 0 v4,u (.st l0 l1 1 [])] []) .skip) (.seq (.ite [m v0,u (.ca N.cB 0 [] [.l 0,.i 4])] [] 0 (.reg [m v0,f 0 v2,g l0,u (.ln l0),u (.ca N.aB 0 [] [.l 3,.l 0]),u (.bs [.l 0] 1),f 1 v4,u (.st l0 l1 1 [])] []) .skip) (.seq (.ite [m v0,u (.ca N.cB 0 [] [.l 0,.i 4]),m l0,y 0 true (.fa v2 1),i 1 true l0,y 2 true (.ln l0),y 3 true (.bin .gtr l0 (.i 0)),u (.pk l4 l0 (.b false))] [] 0 (.reg [m v0,f 1 v2,g l0,u (.ln l0),u (.ca N.aB 0 [] [.l 3,.l 0]),u (.bs [.l 0] 1),f 2 v4,u (.st l0 l1 1 [])] []) .skip) (q [h 4 v4,u (.st v3 l0 4 [])] [] .ret)))))),res:=[(3,some (4,true))]}
def bh:Fn:= { aP:=8,vars:=[0,1,2,3,4,5,6,7,8,9,10,13,16,17,18,19,20,21,22,23,24,25],body:=(q [w 8 (.bx v0 2),w 9 (.bx v1 4),w 10 (.bx v2 1),w 11 (.bx v5 1),w 12 (.al [.nil,.nil] []),w 13 (.mv (.c (.nil))),x 14 (.i 0)] [] (q [h 2 v8,m v3,m v4,u (.ca N.bK 0 [] [.l 2,.l 1,.l 0]),m l0,u (.ex l0 0),u (.ex l1 1),w 15 (.al [.nil,.nil] []),u (.st l0 l2 2 []),x 16 l2] [] (.seq (.ite [m v16,u (.bin .neq l0 (.i 0))] [] 0 (q [u (.bd [.nil,.nil] []),m v16,u (.st v12 l1 2 []),w 13 (.mv (.c (.nil))),x 14 l2] [] .ret) .skip) (.seq (q [h 2 v8,h 4 v9,h 1 v10,m v6,m v7,u (.ca N.cH 0 [] [.l 4,.l 3,.l 2,.l 1,.l 0]),x 17 l0] [] (.ite [m v17,u (.bin .neq l0 (.i 0))] [] 0 (q [u (.bd [.nil,.nil] []),m v17,u (.st v12 l1 2 []),w 13 (.mv (.c (.nil))),x 14 l2] [] .ret) .skip)) (q [h 2 v15,h 1 v10,m v6,u (.ca N.fJ 0 [] [.l 2,.l 1,.l 0]),m l0,u (.ex l0 0),u (.ex l1 1),w 18 (.al [.nil] []),u (.st l0 l2 1 []),x 16 l2] [] (.seq (.ite [m v16,u (.bin .neq l0 (.i 0))] [] 0 (q [u (.bd [.nil,.nil] []),m v16,u (.st v12 l1 2 []),w 13 (.mv (.c (.nil))),x 14 l2] [] .ret) .skip) (q [h 2 v15,h 4 v9,h 1 v18,m v6,m v7,u (.bin .add l1 l0),u (.ca N.bE 0 [] [.l 5,.l 4,.l 3,.l 0]),x 19 l0] [] (.seq (q [m v19,u (.ca N.aU 1 [] [.l 0]),u (.mf N.bO [.v 11]),u (.ca N.aL 1 [0] [.l 1,.l 0]),x 20 l0] [] (.ite [m v20,u (.ln l0),u (.bin .gtr l0 (.i 0))] [] 0 (q [h 2 v8,u (.ca N.bK 0 [] [.l 0,.c (.nil),.c (.nil)]),m l0,u (.ex l0 0),u (.ex l1 1),w 21 (.al [.nil,.nil] []),u (.st l0 l2 2 []),m l2] [] (q [h 2 v21,m v20,u (.st v12 l1 2 []),x 13 l1,x 14 (.i 46)] [] .ret)) .skip)) (q [h 2 v15,m v19,u (.st v12 l1 2 []),x 13 l1,x 14 (.i 0)] [] .ret))))))))),res:=[(12,some (2,true)),(13,none),(14,none)]}
def cX:Fn:= { aP:=3,vars:=[0,1,2,3,4,6,7,8,9,10,11,13],body:=(q [w 3 (.bx v0 2),w 4 (.bx v1 4),x 5 (.b false)] [] (q [h 2 v3,h 4 v4,m v2,u (.ca N.jg 0 [] [.l 2,.l 1,.l 0]),m l0,u (.ex l0 0),u (.ex l1 1),u (.ex l2 2),x 6 l2,x 7 l2,x 8 l2] [] (.seq (.ite [m v8,u (.un .not l0)] [] 0 (q [x 5 (.b false)] [] .ret) .skip) (q [h 2 v3,m v2,u (.ca N.kW 0 [] [.l 1,.l 0]),x 9 l0] [] (q [h 2 v3,h 4 v4,m v2,m v6,u (.ca N.gR 0 [] [.l 3,.l 2,.l 1,.l 0]),m l0,u (.ex l0 0),u (.ex l1 1),x 10 l1,m l1] [] (q [h 2 v3,h 4 v4,m v2,m v7,u (.ca N.gR 0 [] [.l 3,.l 2,.l 1,.l 0]),m l0,u (.ex l0 0),u (.ex l1 1),x 11 l1,m l1] [] (q [m v10,m v9,u (.bin .add l1 l0),f 3 v4,g l0,u (.bin .leq l2 l0),m l0,e 0 true v11,e 1 true v9,y 2 true (.bin .add l1 l0),y 3 true (.fa v4 3),i 4 true l0,y 5 true (.bin .leq l2 l0),u (.pk l6 l0 (.b false)),x 5 l0] [] .ret))))))),res:=[(5,none)]}
def kC:C:= (.its [u (.bin .lss v13 v12)] [] 0 .skip (.exit 1) (.seq (.blk 2 (q [a 1 v11 v13,g l0,x 9 l0] [] (.reg [f 1 v8,g l0,m v9,a 10 l1 l0,f 5 l0,u (.st l0 (.b true) 1 [])] []))) (.reg [u (.bin .add v13 (.i 1)),x 13 l0] [])))
def pj:C:= .loop true [0,1,2,3,6,7,9,10,14,15,16] K.kC
def kD:C:= (.its [u (.bin .lss v16 v15)] [] 0 .skip (.exit 3) (.seq (.blk 4 (q [a 1 v14 v16,g l0,x 10 l0] [] (.reg [f 1 v8,g l0,m v10,a 10 l1 l0,f 5 l0,u (.st l0 (.b false) 1 [])] []))) (.reg [u (.bin .add v16 (.i 1)),x 16 l0] [])))
def pn:C:= .loop true [0,1,2,3,4,6,7,9,10,11,12,13] K.kD
def bK:Fn:= { aP:=3,vars:=[0,1,2,3,5,6,7,8,9,11,13,47,48,49,59,60,61],body:=(q [w 3 (.bx v0 2),w 4 (.bx v2 1),w 5 (.al [.nil,.nil] []),x 6 (.i 0)] [] (q [f 1 v3,g l0,u (.ln l0),u (.bin .sub l0 (.i 1)),x 7 l0] [] (.seq (.blk 0 (.ite [h 2 v3,u (.ca N.ec 0 [] [.l 0]),u (.un .not l0),m l0] [] 0 (q [u (.bd [.nil,.nil] []),u (.st v5 l0 2 []),x 6 (.i 6)] [] .ret) (.ite [m v1,m v7,u (.ca N.dm 0 [] [.l 1,.i 0,.l 0]),u (.un .not l0),m l0,i 0 false v4,e 1 false v7,y 2 false (.ca N.dm 0 [] [.l 1,.i 0,.l 0]),y 3 false (.un .not l0),u (.pk l4 (.b true) l0),m l0,e 0 false v1,y 1 false (.mf N.bL [.v 4]),y 2 false (.ca N.aK 0 [] [.l 1,.l 0]),u (.pk l3 (.b true) l0),m l0] [] 0 (q [u (.bd [.nil,.nil] []),u (.st v5 l0 2 []),x 6 (.i 4)] [] .ret) .skip))) (q [w 8 (.al [.nil,.nil] []),f 0 v3,g l0,u (.ca N.aM 0 [] [.l 0]),f 1 v3,g l0,u (.ca N.aN 1 [] [.l 0]),u (.bd [.nil,.nil] [(0,1,.l 3),(1,1,.l 0)]),u (.st l7 l0 2 [])] [(0,4),(0,7),(5,1)] (.seq (q [x 11 v1,w 12 (.ln l0),x 13 (.i 0)] [] (.blk 1 K.pj)) (.seq (q [w 14 (.ld v4 1 false),w 15 (.ln l0),x 16 (.i 0)] [] (.blk 3 K.pn)) (q [h 2 v8,u (.st v5 l0 2 []),x 6 (.i 0)] [] .ret))))))),res:=[(5,some (2,true)),(6,none)]}
def eZ:Fn:= { aP:=3,vars:=[0,1,2,3,4,5,6],body:=(q [w 3 (.bx v0 2),w 4 (.bx v1 2),w 5 (.bx v2 4),w 6 (.mv (.c (.nil)))] [] (.seq (.ite [h 2 v3,h 4 v5,u (.ca N.gT 0 [] [.l 1,.l 0]),u (.un .not l0),m l0,y 0 false (.ld v4 2 true),y 1 false (.ld v5 4 true),y 2 false (.ca N.gT 0 [] [.l 1,.l 0]),y 3 false (.un .not l0),u (.pk l4 (.b true) l0)] [] 0 (q [w 6 (.mv (.c (.nil)))] [] .ret) .skip) (q [f 0 v3,g l0,u (.ln l0),u (.mf N.dM [.v 3,.v 5,.v 4]),u (.ca N.gz 0 [] [.l 1,.l 0]),x 6 l0] [] .ret))),res:=[(6,none)]}
def cH:Fn:= { aP:=5,vars:=[0,1,2,3,4,5,6,7,10],body:=(q [w 5 (.bx v0 2),w 6 (.bx v1 4),w 7 (.bx v2 1),x 8 (.i 0)] [] (.seq (.blk 0 (.ite [h 2 v5,h 4 v6,u (.ca N.gT 0 [] [.l 1,.l 0]),u (.un .not l0),m l0,y 0 false (.ld v5 2 true),y 1 false (.ld v7 1 true),y 2 false (.ca N.gF 0 [] [.l 1,.l 0]),y 3 false (.un .not l0),u (.pk l4 (.b true) l0),m l0] [] 0 (q [x 8 (.i 6)] [] .ret) (.ite [m v3,u (.ca N.eI 0 [] [.l 0,.i 0,.i 2147483648]),u (.un .not l0),m l0,e 0 false v4,y 1 false (.ca N.eI 0 [] [.l 0,.i 0,.i 2147483648]),y 2 false (.un .not l0),u (.pk l3 (.b true) l0),m l0] [] 0 (q [x 8 (.i 8)] [] .ret) .skip))) (q [x 8 (.i 0)] [] .ret))),res:=[(8,none)]}
def bU:C:= (.its [u (.bin .lss v11 v10)] [] 0 .skip (.exit 0) (.seq (.blk 1 (q [m v11,x 9 l0] [] (.reg [m v8,h 1 v6,m v9,m v3,u (.ca N.eC 0 [] [.l 2,.l 1,.l 0]),u (.ca N.iL 1 [] [.l 4,.l 0]),x 8 l0] []))) (.reg [u (.bin .add v11 (.i 1)),x 11 l0] [])))
def jv:C:= .loop false [0,1,2,7,9] K.bU
def bE:Fn:= { aP:=4,vars:=[0,1,2,3,4,5,6,8,9,10,16,17],body:=(q [w 4 (.bx v0 2),w 5 (.bx v1 4),w 6 (.bx v2 1),w 7 (.mv (.c (.nil)))] [] (q [w 8 (.mv (.c (.nil)))] [] (.seq (q [f 0 v6,g l0,a 2 l0 (.i 0),f 1 l0,g l0,w 10 (.ln l0),x 11 (.i 0)] [] (.blk 0 K.jv)) (q [m v8,u (.mf N.bM [.v 4,.v 5]),u (.ca N.aL 1 [0] [.l 1,.l 0]),x 7 l0] [] .ret)))),res:=[(7,none)]}
def bF:C:= (.seq (.ite [m v4,m v0,u (.ln l0),u (.bin .lss l2 l0)] [] 0 .skip (.exit 0)) (.seq (.blk 1 (q [m v0,m v4,a 1 l1 l0,g l0,x 5 l0] [] (.ite [m v1,m v5,u (.cw l1 0 [] [.l 0]),u (.un .not l0)] [] 0 (q [m v0,m v3,m v5,a 1 l2 l1,u (.st l0 l1 1 [])] [] (.reg [m v3,u (.bin .add l0 (.i 1)),x 3 l0] [])) .skip))) (.reg [m v4,u (.bin .add l0 (.i 1)),x 4 l0] [])))
def gK:C:= .loop true [2,5] K.bF
def aL:Fn:= { aP:=2,vars:=[0,1,4,5,6,7],body:=(q [w 2 (.mv (.c (.nil)))] [] (q [m v0,m v1,u (.ca N.aI 0 [0] [.l 1,.l 0]),x 3 l0] [] (.seq (.ite [m v3,u (.bin .eql l0 (.i (-1)))] [] 0 (q [m v0,x 2 l0] [] .ret) .skip) (.seq (q [m v3,u (.bin .add l0 (.i 1)),x 4 l0] [] (.blk 0 K.gK)) (q [m v0,m v3,u (.sc l1 (some l0) none 1),u (.clr l0 (.int .i64 (0)) 1)] [] (q [m v0,m v3,u (.pop l1 l0),x 2 l0] [] .ret)))))),res:=[(2,none)]}
def bO:Fn:= { aP:=2,vars:=[0,1,3],body:=(q [x 2 (.b false)] [] (q [g v1,m v0,u (.ca N.aO 0 [] [.l 1,.l 0]),x 2 l0] [] .ret)),res:=[(2,none)]}
def jg:Fn:= { aP:=3,vars:=[0,1,2,3,4,6,7,8,9,11,12],body:=(q [w 3 (.bx v0 2),w 4 (.bx v1 4),w 5 (.mv (.c (.nil))),w 6 (.mv (.c (.nil))),x 7 (.b false)] [] (q [h 2 v3,h 4 v4,m v2,u (.ca N.gx 0 [] [.l 2,.l 1,.l 0]),m l0,u (.ex l0 0),u (.ex l1 1),u (.ex l2 2),x 8 l2,m l2,x 9 l2] [] (.seq (.ite [m v9,u (.un .not l0)] [] 0 (q [w 5 (.mv (.c (.nil))),w 6 (.mv (.c (.nil))),x 7 (.b false)] [] .ret) .skip) (.seq (.ite [m v8,u (.ln l0),u (.bin .eql l0 (.i 0))] [] 0 (q [w 5 (.mv (.c (.nil))),w 6 (.mv (.c (.nil))),x 7 (.b true)] [] .ret) .skip) (q [h 2 v3,h 2 v3,h 4 v4,m v2,m v8,u (.ca N.fT 0 [] [.l 3,.l 2,.l 1,.l 0]),m v2,u (.ca N.gx 0 [] [.l 6,.l 1,.l 0]),m l0,u (.ex l0 0),u (.ex l1 1),u (.ex l2 2),x 10 l2,m l2,x 9 l2] [(0,6)] (.seq (.ite [m v9,u (.un .not l0)] [] 0 (q [w 5 (.mv (.c (.nil))),w 6 (.mv (.c (.nil))),x 7 (.b false)] [] .ret) .skip) (q [m v8,m v10,x 5 l1,x 6 l1,x 7 (.b true)] [] .ret))))))),res:=[(5,none),(6,none),(7,none)]}
def jw:C:= (.seq (.ite [m v5,f 1 v2,g l0,u (.ln l0),u (.bin .lss l3 l0)] [] 0 .skip (.exit 0)) (.seq (.blk 1 (q [f 1 v2,g l0,m v5,a 10 l1 l0,h 10 l0,w 6 (.al [z0,z0,z0,z0,z1,z1,z0,z0,z0,z0] []),u (.st l0 l1 10 [])] [] (.seq (.ite [f 0 v6,g l0,m v1,u (.bin .eql l1 l0),m l0,y 0 true (.ld v2 2 true),e 1 true v5,y 2 true (.ca N.fK 0 [] [.l 1,.l 0,.b false]),y 3 true (.bin .geq l0 (.i 0)),u (.pk l4 l0 (.b false))] [] 0 (.reg [m v4,h 2 v2,m v5,u (.ca N.fK 0 [] [.l 1,.l 0,.b true]),u (.mx [.l 3,.l 0]),x 4 l0] []) .skip) (.ite [f 1 v6,g l0,m v1,u (.bin .eql l1 l0),m l0,y 0 true (.ld v2 2 true),e 1 true v5,y 2 true (.ca N.fK 0 [] [.l 1,.l 0,.b true]),y 3 true (.bin .geq l0 (.i 0)),u (.pk l4 l0 (.b false))] [] 0 (.reg [m v4,h 2 v2,m v5,u (.ca N.fK 0 [] [.l 1,.l 0,.b false]),u (.mx [.l 3,.l 0]),x 4 l0] []) .skip)))) (.reg [m v5,u (.bin .add l0 (.i 1)),x 5 l0] [])))
def Ax:C:= .loop true [0,3,6] K.jw
def kW:Fn:= { aP:=2,vars:=[0,1,2,4,5,6,7],body:=(q [w 2 (.bx v0 2),x 3 (.i 0)] [] (q [x 4 (.i 0)] [] (.seq (q [x 5 (.i 0)] [] (.blk 0 K.Ax)) (q [m v4,x 3 l0] [] .ret)))),res:=[(3,none)]}
def qw:C:= (.seq (.ite [m v11,m v3,u (.ln l0),u (.bin .lss l2 l0)] [] 0 .skip (.exit 0)) (.seq (.blk 1 (.seq (.ite [m v3,m v11,a 1 l1 l0,g l0,u (.bin .lss l0 (.i 0)),m l0,e 0 false v3,e 1 false v11,y 2 false (.ia l1 l0 1),i 3 false l0,y 4 false (.fa v4 1),i 5 false l0,y 6 false (.ln l0),y 7 false (.bin .geq l3 l0),u (.pk l8 (.b true) l0),m l0,y 0 false (.fa v5 2),i 1 false l0,e 2 false v3,e 3 false v11,y 4 false (.ia l1 l0 1),i 5 false l0,y 6 false (.ca N.cZ 0 [] [.l 4,.l 0]),u (.pk l7 (.b true) l0),m l0,y 0 false (.ld v4 2 true),y 1 false (.ld v5 4 true),e 2 false v8,y 3 false (.ca N.eU 0 [] [.l 2,.l 1,.l 0]),u (.pk l4 (.b true) l0)] [] 0 (q [x 6 (.i 0),x 7 (.i 45)] [] .ret) .skip) (q [h 2 v4,m v3,m v11,a 1 l1 l0,g l0,m v8,u (.ca N.dV 0 [] [.l 5,.l 1,.l 0]),m l0,u (.ex l0 0),u (.ex l1 1),x 12 l1,x 13 l1] [] (.seq (.ite [m v13,u (.bin .lss l0 (.i 0)),m l0,e 0 false v10,e 1 false v12,y 2 false (.ca N.cZ 0 [] [.l 1,.l 0]),u (.pk l3 (.b true) l0),m l0,y 0 false (.fa v5 1),i 1 false l0,e 2 false v12,y 3 false (.ca N.cZ 0 [] [.l 1,.l 0]),u (.pk l4 (.b true) l0)] [] 0 (q [x 6 (.i 0),x 7 (.i 45)] [] .ret) .skip) (.reg [m v12,m v9,m v13,u (.bin .add l1 l0),m v10,m v12,u (.bs [.l 0] 1),u (.app l2 l0 true 1),x 8 l7,x 9 l5,x 10 l2] []))))) (.reg [m v11,u (.bin .add l0 (.i 1)),x 11 l0] [])))
def yG:C:= .loop true [0,1,2,6,7,12,13] K.qw
def gR:Fn:= { aP:=4,vars:=[0,1,2,3,4,5,8,9,10,11,12,13,14,15],body:=(q [w 4 (.bx v0 2),w 5 (.bx v1 4),x 6 (.i 0),x 7 (.i 0)] [] (.seq (.ite [h 2 v4,h 4 v5,u (.ca N.ie 0 [] [.l 1,.l 0]),u (.un .not l0)] [] 0 (q [x 6 (.i 0),x 7 (.i 6)] [] .ret) .skip) (.seq (.ite [m v2,u (.bin .lss l0 (.i 0)),m l0,e 0 false v2,y 1 false (.fa v4 0),i 2 false l0,y 3 false (.ln l0),y 4 false (.bin .geq l3 l0),u (.pk l5 (.b true) l0)] [] 0 (q [x 6 (.i 0),x 7 (.i 3)] [] .ret) .skip) (q [m v2,x 8 l0,x 9 (.i 0)] [] (q [m v8,u (.bsr [.l 0] 1),x 10 l0] [] (.seq (q [x 11 (.i 0)] [] (.blk 0 K.yG)) (.seq (.ite [h 2 v4,h 4 v5,m v8,u (.ca N.eU 0 [] [.l 2,.l 1,.l 0]),u (.un .not l0)] [] 0 (q [x 6 (.i 0),x 7 (.i 45)] [] .ret) .skip) (q [m v9,x 6 l0,x 7 (.i 0)] [] .ret)))))))),res:=[(6,none),(7,none)]}
def bL:Fn:= { aP:=2,vars:=[0,1,3],body:=(q [x 2 (.b false)] [] (q [g v1,m v0,u (.ca N.aO 0 [] [.l 1,.l 0]),x 2 l0] [] .ret)),res:=[(2,none)]}
def gT:Fn:= { aP:=2,vars:=[0,1,2,3,4,5],body:=(q [w 2 (.bx v0 2),w 3 (.bx v1 4),x 4 (.b false)] [] (q [f 0 v2,g l0,u (.ln l0),u (.bin .sub l0 (.i 1)),x 5 l0] [] (q [h 2 v2,u (.ca N.ec 0 [] [.l 0]),m l0,y 0 true (.fa v3 0),i 1 true l0,e 2 true v5,y 3 true (.ca N.dm 0 [] [.l 1,.i 0,.l 0]),u (.pk l4 l0 (.b false)),m l0,y 0 true (.fa v3 1),i 1 true l0,e 2 true v5,y 3 true (.ca N.dm 0 [] [.l 1,.i 0,.l 0]),u (.pk l4 l0 (.b false)),m l0,y 0 true (.fa v3 2),i 1 true l0,y 2 true (.fa v2 1),i 3 true l0,y 4 true (.ln l0),y 5 true (.bin .sub l0 (.i 1)),y 6 true (.ca N.dm 0 [] [.l 4,.i 0,.l 0]),u (.pk l7 l0 (.b false)),m l0,y 0 true (.fa v3 3),i 1 true l0,y 2 true (.ca N.eI 0 [] [.l 0,.i 0,.i 2147483648]),u (.pk l3 l0 (.b false)),x 4 l0] [] .ret))),res:=[(4,none)]}
def dM:Fn:= { aP:=4,vars:=[0,1,2,3,5],body:=(q [x 4 (.b false)] [] (q [h 2 v1,h 4 v2,m v0,u (.ca N.dq 0 [] [.l 2,.l 1,.l 0]),m l0,y 0 true (.ld v3 2 true),y 1 true (.ld v2 4 true),e 2 true v0,y 3 true (.ca N.dq 0 [] [.l 2,.l 1,.l 0]),y 4 true (.un .not l0),u (.pk l5 l0 (.b false)),x 4 l0] [] .ret)),res:=[(4,none)]}
end Go.Ev.K
namespace Go.Ev
class gl [Lib]:Prop where
 jx:Lib.fs N.bB=some K.bB
 yH:Lib.fs N.ic=some K.ic
 mH:Lib.fs N.dw=some K.dw
 lE:Lib.fs N.bh=some K.bh
 qx:Lib.fs N.cX=some K.cX
 mI:Lib.fs N.bK=some K.bK
 pX:Lib.fs N.eZ=some K.eZ
 kE:Lib.fs N.cH=some K.cH
 mJ:Lib.fs N.bE=some K.bE
 cG:Lib.fs N.aL=some K.aL
 kg:Lib.fs N.bO=some K.bO
 xn:Lib.fs N.jg=some K.jg
 xp:Lib.fs N.kW=some K.kW
 uD:Lib.fs N.gR=some K.gR
 kF:Lib.fs N.bL=some K.bL
 uE:Lib.fs N.gT=some K.gT
 oc:Lib.fs N.dM=some K.dM
namespace K
variable [Lib] [gl]
theorem jx:Lib.fs N.bB=some K.bB:=gl.jx
theorem yH:Lib.fs N.ic=some K.ic:=gl.yH
theorem mH:Lib.fs N.dw=some K.dw:=gl.mH
theorem lE:Lib.fs N.bh=some K.bh:=gl.lE
theorem qx:Lib.fs N.cX=some K.cX:=gl.qx
theorem mI:Lib.fs N.bK=some K.bK:=gl.mI
theorem pX:Lib.fs N.eZ=some K.eZ:=gl.pX
theorem kE:Lib.fs N.cH=some K.cH:=gl.kE
theorem mJ:Lib.fs N.bE=some K.bE:=gl.mJ
theorem cG:Lib.fs N.aL=some K.aL:=gl.cG
theorem kg:Lib.fs N.bO=some K.bO:=gl.kg
theorem xn:Lib.fs N.jg=some K.jg:=gl.xn
theorem xp:Lib.fs N.kW=some K.kW:=gl.xp
theorem uD:Lib.fs N.gR=some K.gR:=gl.uD
theorem kF:Lib.fs N.bL=some K.bL:=gl.kF
theorem uE:Lib.fs N.gT=some K.gT:=gl.uE
theorem oc:Lib.fs N.dM=some K.dM:=gl.oc
end K
end Go.Ev
namespace Go.Ev.K
open Go.Ev
def dq:Fn:= { aP:=3,vars:=[0,1,2,3,4,6,9,10],body:=(q [w 3 (.bx v0 2),w 4 (.bx v1 4),x 5 (.b false)] [] (q [h 2 v3,h 4 v4,m v2,u (.ca N.j4 0 [] [.l 2,.l 1,.l 0]),m l0,u (.ex l0 0),u (.ex l1 1),u (.ex l2 2),u (.ex l3 3),w 6 (.al [z0,z0] []),m l4,m l4,u (.st l2 l4 2 []),x 7 l4] [] (q [m v7,m l0,y 0 true (.ld v3 2 true),e 1 true v2,y 2 true (.ca N.nf 0 [] [.l 1,.l 0]),y 3 true (.iaa v6 (.i 0) 2 1),i 4 true l0,y 5 true (.iaa v6 (.i 1) 2 1),i 6 true l0,y 7 true (.mx [.l 2,.l 0]),y 8 true (.bin .add l5 l0),y 9 true (.fa v4 3),i 10 true l0,y 11 true (.bin .leq l2 l0),u (.pk (.l 12) l0 (.b false)),x 5 l0] [(6,0),(8,0),(12,0)] .ret))),res:=[(5,none)]}
def iL:Fn:= { aP:=2,vars:=[0,1,4,5],body:=(q [w 2 (.mv (.c (.nil)))] [] (q [m v0,m v1,u (.bs [.l 1,.l 0] 1),u (.ca N.bC 1 [] [.l 0]),x 3 l0] [] (q [m v3,u (.ca N.bN 0 [0] [.l 0])] [] (q [m v3,u (.ca N.bc 1 [0] [.l 0]),x 2 l0] [] .ret)))),res:=[(2,none)]}
def bM:Fn:= { aP:=3,vars:=[0,1,2,4],body:=(q [x 3 (.b false)] [] (q [h 2 v1,h 4 v2,m v0,u (.ca N.dq 0 [] [.l 2,.l 1,.l 0]),x 3 l0] [] .ret)),res:=[(3,none)]}
def fV:C:= (.seq (.ite [m v11,f 1 v3,g l0,u (.ln l0),u (.bin .lss l3 l0)] [] 0 .skip (.exit 2)) (.seq (.blk 3 (q [h 2 v3,m v11,m v10,u (.ca N.dV 0 [] [.l 2,.l 1,.l 0]),m l0,u (.ex l0 0),u (.ex l1 1),x 12 l1,x 13 l1] [] (.seq (.ite [m v13,u (.bin .lss l0 (.i 0)),m l0,y 0 false (.fa v4 2),i 1 false l0,e 2 false v11,y 3 false (.ca N.cZ 0 [] [.l 1,.l 0]),u (.pk l4 (.b true) l0),m l0,y 0 false (.fa v4 1),i 1 false l0,e 2 false v12,y 3 false (.ca N.cZ 0 [] [.l 1,.l 0]),u (.pk l4 (.b true) l0),m l0,e 0 false v8,e 1 false v12,y 2 false (.ia l1 l0 2),y 3 false (.fa l0 0),i 4 false l0,y 5 false (.bin .geq l0 (.i 1099511627776)),u (.pk l6 (.b true) l0)] [] 0 (.exit 3) .skip) (.ite [m v8,m v12,a 2 l1 l0,f 0 l0,g l0,m v13,u (.bin .add l1 l0),m v8,m v10,a 2 l1 l0,f 0 l0,g l0,u (.bin .eql l5 l0),m l0,e 0 true v8,e 1 true v12,y 2 true (.ia l1 l0 2),y 3 true (.fa l0 1),i 4 true l0,y 5 true (.bin .add l0 (.i 1)),e 6 true v8,e 7 true v10,y 8 true (.ia l1 l0 2),y 9 true (.fa l0 1),i 10 true l0,y 11 true (.bin .eql l5 l0),u (.pk (.l 12) l0 (.b false))] [] 0 (q [m v9,m v11,u (.bs [.l 0] 1),u (.app l2 l0 true 1),m v12,x 9 l1,x 10 l1] [] (.exit 2)) .skip)))) (.reg [m v11,u (.bin .add l0 (.i 1)),x 11 l0] [])))
def yI:C:= .loop true [0,1,5,6,7,12,13] K.fV
def jO:C:= (.seq (.ite [h 2 v3,h 4 v4,m v10,u (.ca N.eU 0 [] [.l 2,.l 1,.l 0]),u (.un .not l0)] [] 0 .skip (.exit 0)) (.blk 1 (q [x 11 (.i 0)] [] (.blk 2 K.yI))))
def yJ:C:= .loop true [0,1,5,6,7,11,12,13] K.jO
def gx:Fn:= { aP:=3,vars:=[0,1,2,3,4,6,7,8,9,10,11,12,13,14],body:=(q [w 3 (.bx v0 2),w 4 (.bx v1 4),w 5 (.mv (.c (.nil))),x 6 (.i 0),x 7 (.b false)] [] (.seq (.ite [h 2 v3,h 4 v4,u (.ca N.ie 0 [] [.l 1,.l 0]),u (.un .not l0),m l0,e 0 false v2,y 1 false (.bin .lss l0 (.i 0)),u (.pk l2 (.b true) l0),m l0,e 0 false v2,y 1 false (.fa v3 0),i 2 false l0,y 3 false (.ln l0),y 4 false (.bin .geq l3 l0),u (.pk l5 (.b true) l0)] [] 0 (q [w 5 (.mv (.c (.nil))),x 6 (.i 0),x 7 (.b false)] [] .ret) .skip) (.seq (.ite [h 2 v3,h 4 v4,m v2,u (.ca N.eU 0 [] [.l 2,.l 1,.l 0])] [] 0 (q [w 5 (.mv (.c (.nil))),x 6 (.i 0),x 7 (.b true)] [] .ret) .skip) (q [h 2 v3,h 4 v4,u (.ca N.gN 0 [] [.l 1,.l 0]),x 8 l0] [] (.seq (.ite [m v8,m v2,a 2 l1 l0,f 0 l0,g l0,u (.bin .geq l0 (.i 1099511627776))] [] 0 (q [w 5 (.mv (.c (.nil))),x 6 (.i 0),x 7 (.b false)] [] .ret) .skip) (q [w 9 (.nw 1)] [] (.seq (q [m v2,x 10 l0] [] (.blk 0 K.yJ)) (q [m v9,m v8,m v2,a 2 l1 l0,f 0 l0,g l0,x 5 l5,x 6 l1,x 7 (.b true)] [] .ret)))))))),res:=[(5,none),(6,none),(7,none)]}
def m8:C:= (.seq (.ite [m v8,m v3,u (.ln l0),u (.bin .lss l2 l0)] [] 0 .skip (.exit 0)) (.seq (.blk 1 (q [h 2 v4,m v3,m v8,a 1 l1 l0,g l0,m v7,u (.ca N.dV 0 [] [.l 5,.l 1,.l 0]),m l0,u (.ex l0 0),u (.ex l1 1),x 9 l1,m l1] [] (.reg [f 2 v5,g l0,m v3,m v8,a 1 l1 l0,g l0,u (.ca N.jh 0 [] [.l 4,.l 0]),f 1 v5,g l0,m v9,u (.ca N.jh 0 [] [.l 1,.l 0]),m v9,f 2 v5,u (.st l0 l6 1 []),f 1 v5,u (.st l0 l4 1 []),x 7 l4] [(8,0)]))) (.reg [m v8,u (.bin .add l0 (.i 1)),x 8 l0] [])))
def s6:C:= .loop true [0,1,2,9] K.m8
def fT:Fn:= { aP:=4,vars:=[0,1,2,3,4,5,8,9,10,11],body:=(q [w 4 (.bx v0 2),w 5 (.bx v1 4),w 6 (.al [.nil,.nil,.nil,z0] [])] [] (q [m v2,x 7 l0] [] (.seq (q [x 8 (.i 0)] [] (.blk 0 K.s6)) (q [h 4 v5,u (.st v6 l0 4 [])] [] .ret)))),res:=[(6,some (4,true))]}
def fK:Fn:= { aP:=3,vars:=[0,1,2,3,6],body:=(q [w 3 (.bx v0 2),x 4 (.i 0)] [] (q [h 2 v3,m v1,m v2,u (.ca N.cA 0 [] [.l 2,.l 1,.l 0,.i 2,.i 3,.i 4]),x 4 l0] [] .ret)),res:=[(4,none)]}
def ie:Fn:= { aP:=2,vars:=[0,1,2,3,4],body:=(q [w 2 (.bx v0 2),w 3 (.bx v1 4),x 4 (.b false)] [] (q [h 2 v2,u (.ca N.di 0 [] [.l 0]),u (.bin .eql l0 (.i 0)),m l0,y 0 true (.fa v3 0),i 1 true l0,y 2 true (.fa v2 0),i 3 true l0,y 4 true (.ln l0),y 5 true (.ca N.iX 0 [] [.l 3,.l 0]),u (.pk l6 l0 (.b false)),m l0,y 0 true (.fa v3 1),i 1 true l0,y 2 true (.fa v2 0),i 3 true l0,y 4 true (.ln l0),y 5 true (.ca N.iX 0 [] [.l 3,.l 0]),u (.pk l6 l0 (.b false)),m l0,y 0 true (.fa v3 2),i 1 true l0,y 2 true (.fa v2 1),i 3 true l0,y 4 true (.ln l0),y 5 true (.ca N.iX 0 [] [.l 3,.l 0]),u (.pk l6 l0 (.b false)),m l0,y 0 true (.fa v3 3),i 1 true l0,y 2 true (.bin .geq l0 (.i 0)),u (.pk l3 l0 (.b false)),m l0,y 0 true (.fa v3 3),i 1 true l0,y 2 true (.bin .leq l0 (.i 2147483648)),u (.pk l3 l0 (.b false)),x 4 l0] [] .ret)),res:=[(4,none)]}
def eU:Fn:= { aP:=3,vars:=[0,1,2,3,4,6],body:=(q [w 3 (.bx v0 2),w 4 (.bx v1 4),x 5 (.b false)] [] (q [f 0 v3,g l0,m v2,a 2 l1 l0,f 1 l0,g l0,m l0,y 0 false (.fa v4 0),i 1 false l0,e 2 false v2,y 3 false (.ca N.cZ 0 [] [.l 1,.l 0]),u (.pk l4 (.b true) l0),x 5 l0] [] .ret)),res:=[(5,none)]}
def dV:Fn:= { aP:=3,vars:=[0,1,2,3,6,7,8],body:=(q [w 3 (.bx v0 2),x 4 (.i 0),x 5 (.i 0)] [] (q [f 1 v3,g l0,m v1,a 10 l1 l0,h 10 l0,w 6 (.al [z0,z0,z0,z0,z1,z1,z0,z0,z0,z0] []),u (.st l0 l1 10 [])] [] (.seq (.ite [f 0 v6,g l0,m v2,u (.bin .eql l1 l0)] [] 0 (q [f 1 v6,g l0,h 2 v3,m v1,u (.ca N.fK 0 [] [.l 1,.l 0,.b false]),x 4 l3,x 5 l1] [(1,5)] .ret) .skip) (.seq (.ite [f 1 v6,g l0,m v2,u (.bin .eql l1 l0)] [] 0 (q [f 0 v6,g l0,h 2 v3,m v1,u (.ca N.fK 0 [] [.l 1,.l 0,.b true]),x 4 l3,x 5 l1] [(1,5)] .ret) .skip) (q [x 4 (.i 0),w 5 (.mv (.i (-1)))] [] .ret))))),res:=[(4,none),(5,none)]}
def uF:C:= (.its [u (.bin .lss v15 v14)] [] 0 .skip (.exit 0) (.seq (.blk 1 (q [a 1 v13 v15,g l0,x 12 l0] [] (.reg [f 3 v9,g l0,m v12,a 1 l1 l0,u (.st l0 (.b true) 1 [])] []))) (.reg [u (.bin .add v15 (.i 1)),x 15 l0] [])))
def CB:C:= .loop true [0,1,3,4,6,8,10,11,12] K.uF
def j4:Fn:= { aP:=3,vars:=[0,1,2,3,4,6,7,8,9,10,11,12,14,44,45,46],body:=(q [w 3 (.bx v0 2),w 4 (.bx v1 4),w 5 (.al [.nil] []),w 6 (.mv (.c (.nil))),w 7 (.al [z0,z0] []),x 8 (.b false)] [] (.seq (.ite [h 2 v3,h 4 v4,m v2,u (.ca N.jN 0 [] [.l 2,.l 1,.l 0]),u (.un .not l0)] [] 0 (q [h 2 v7,u (.st v5 (.c (.nil)) 1 []),w 6 (.mv (.c (.nil))),u (.st v7 l2 2 []),x 8 (.b false)] [(0,2)] .ret) .skip) (q [h 2 v3,h 4 v4,u (.ca N.iF 1 [] [.l 1,.l 0]),w 9 (.al [z0,.nil,.nil,.nil] []),u (.st l0 l1 4 [])] [] (.seq (.ite [f 2 v9,g l0,m v2,a 1 l1 l0,g l0] [] 0 (q [h 2 v7,u (.st v5 (.c (.nil)) 1 []),w 6 (.mv (.c (.nil))),u (.st v7 l2 2 []),x 8 (.b true)] [(0,2)] .ret) .skip) (q [h 4 v9,m v2,u (.ca N.bW 0 [0] [.l 1,.l 0]),m l0,u (.ex l0 0),u (.ex l1 1),u (.ex l2 2),u (.ex l3 3),u (.st v5 l3 1 []),x 10 l3,x 11 l3,x 8 l3] [] (.seq (.ite [m v8,u (.un .not l0)] [] 0 (q [h 2 v7,u (.st v5 (.c (.nil)) 1 []),w 6 (.mv (.c (.nil))),u (.st v7 l2 2 []),x 8 (.b false)] [(0,2)] .ret) .skip) (q [m v10,u (.iaa v7 (.i 0) 2 1),u (.st l0 l1 1 [])] [] (.seq (q [m v11,w 13 (.sc l0 (some (.i 1)) none 1),w 14 (.ln l0),x 15 (.i 0)] [] (.blk 0 K.CB)) (q [f 1 v9,g l0,u (.mf N.dC [.v 5]),u (.ca N.aD 1 [0] [.l 1,.l 0]),f 1 v9,u (.st l0 l1 1 [])] [] (q [h 4 v9,m v2,u (.ca N.bW 0 [0] [.l 1,.l 0]),m l0,u (.ex l0 0),u (.ex l1 1),u (.ex l2 2),u (.ex l3 3),x 6 l3,u (.iaa v7 (.i 1) 2 1),u (.st l0 l4 1 []),x 8 l3] [] (.seq (.ite [m v8,u (.un .not l0)] [] 0 (q [h 2 v7,u (.st v5 (.c (.nil)) 1 []),w 6 (.mv (.c (.nil))),u (.st v7 l2 2 []),x 8 (.b false)] [(0,2)] .ret) .skip) (q [g v5,m v6,h 2 v7,u (.st v5 l2 1 []),x 6 l2,u (.st v7 l2 2 []),x 8 (.b true)] [(2,4)] .ret)))))))))))),res:=[(5,some (1,false)),(6,none),(7,some (2,true)),(8,none)]}
def uG:C:= (.its [u (.bin .lss v9 v8)] [] 0 .skip (.exit 0) (.seq (.blk 1 (q [m v9,a 10 v7 v9,h 10 l0,w 6 (.al [z0,z0,z0,z0,z1,z1,z0,z0,z0,z0] []),x 5 l3,u (.st l1 l2 10 [])] [] (.seq (.ite [f 1 v6,g l0,m v1,u (.bin .eql l1 l0)] [] 0 (.reg [m v4,h 2 v2,m v5,u (.ca N.ji 0 [] [.l 1,.l 0,.b false]),u (.mx [.l 3,.l 0]),x 4 l0] []) .skip) (.ite [f 0 v6,g l0,m v1,u (.bin .eql l1 l0)] [] 0 (.reg [m v4,h 2 v2,m v5,u (.ca N.ji 0 [] [.l 1,.l 0,.b true]),u (.mx [.l 3,.l 0]),x 4 l0] []) .skip)))) (.reg [u (.bin .add v9 (.i 1)),x 9 l0] [])))
def CC:C:= .loop true [0,3,5,6] K.uG
def nf:Fn:= { aP:=2,vars:=[0,1,2,4,5,6,7,9,10,11],body:=(q [w 2 (.bx v0 2),x 3 (.i 0)] [] (q [x 4 (.i 0)] [] (.seq (q [f 1 v2,w 7 (.ld l0 1 false),w 8 (.ln l0),x 9 (.i 0)] [] (.blk 0 K.CC)) (q [m v4,x 3 l0] [] .ret)))),res:=[(3,none)]}
def fW:C:= (.its [u (.bin .lss v8 v7)] [] 0 .skip (.exit 0) (.seq (.blk 1 (q [a 1 v6 v8,g l0,x 3 l0] [] (q [m v2,m v3,u (.ln l0),u (.bin .add l2 l0),x 2 l0] [] (.ite [m v2,u (.bin .lss l0 (.i 0))] [] 0 .fail .skip)))) (.reg [u (.bin .add v8 (.i 1)),x 8 l0] [])))
def lQ:C:= .loop true [1,3,4,5,9,10,11] K.fW
def fX:C:= (.its [u (.bin .lss v11 v10)] [] 0 .skip (.exit 2) (.seq (.blk 3 (q [a 1 v9 v11,g l0,x 5 l0] [] (.reg [m v4,m v5,u (.app l1 l0 true 1),x 4 l0] []))) (.reg [u (.bin .add v11 (.i 1)),x 11 l0] [])))
def lT:C:= .loop true [0,1,2,3,5,6,7,8] K.fX
def bC:Fn:= { aP:=1,vars:=[0,2,3,5,6,8,9,10,11,25,26,27],body:=(q [w 1 (.mv (.c (.nil)))] [] (q [x 2 (.i 0)] [] (.seq (q [x 6 v0,w 7 (.ln l0),x 8 (.i 0)] [] (.blk 0 K.lQ)) (q [m v2,u (.ca N.cj 1 [0] [.c (.nil),.l 0]),x 4 l0] [] (.seq (q [x 9 v0,w 10 (.ln l0),x 11 (.i 0)] [] (.blk 2 K.lT)) (q [m v4,x 1 l0] [] .ret)))))),res:=[(1,none)]}
def fp:C:= (.seq (.ite [m v4,m v3,u (.ln l0),u (.bin .lss l2 l0)] [] 0 .skip (.exit 2)) (.seq (.blk 3 (.ite [m v3,m v4,a 1 l1 l0,g l0,m v3,m v4,u (.bin .sub l0 (.i 1)),a 1 l2 l0,g l0,u (.bin .neq l5 l0)] [] 0 (q [m v0,m v2,m v3,m v4,a 1 l1 l0,g l0,a 1 l5 l4,u (.st l0 l1 1 [])] [] (.reg [m v2,u (.bin .add l0 (.i 1)),x 2 l0] [])) .skip)) (.reg [m v4,u (.bin .add l0 (.i 1)),x 4 l0] [])))
def kY:C:= .loop true [1] K.fp
def cL:C:= (.seq (.ite [m v2,m v0,u (.ln l0),u (.bin .lss l2 l0)] [] 0 .skip (.exit 0)) (.seq (.blk 1 (.ite [m v0,m v2,a 1 l1 l0,g l0,m v0,m v2,u (.bin .sub l0 (.i 1)),a 1 l2 l0,g l0,u (.bin .eql l5 l0)] [] 0 (q [m v0,m v2,u (.sc l1 (some l0) none 1),x 3 l0] [] (.seq (q [x 4 (.i 1)] [] (.blk 2 K.kY)) (q [m v0,m v2,u (.sc l1 (some l0) none 1),u (.clr l0 (.int .i64 (0)) 1)] [] (q [m v0,m v2,u (.pop l1 l0),x 1 l0] [] .ret)))) .skip)) (.reg [m v2,u (.bin .add l0 (.i 1)),x 2 l0] [])))
def iP:C:= .loop true [1,3,4] K.cL
def bc:Fn:= { aP:=1,vars:=[0,2,3,4,5],body:=(q [w 1 (.mv (.c (.nil)))] [] (.seq (.ite [m v0,u (.ln l0),u (.bin .lss l0 (.i 2))] [] 0 (q [m v0,x 1 l0] [] .ret) .skip) (.seq (q [x 2 (.i 1)] [] (.blk 0 K.iP)) (q [m v0,x 1 l0] [] .ret)))),res:=[(1,none)]}
def nW:C:= (.seq (.ite [m v6,f 0 v2,g l0,u (.ln l0),u (.bin .lss l3 l0)] [] 0 .skip (.exit 0)) (.seq (.blk 1 (q [u (.bd [z0,z0] [(0,1,.i 1099511627776),(1,1,.i 0)]),w 7 (.al [z0,z0] []),u (.st l0 l1 2 [])] [] (.seq (.ite [h 2 v2,h 4 v3,m v6,u (.ca N.eU 0 [] [.l 2,.l 1,.l 0]),m l0,y 0 true (.fa v3 1),i 1 true l0,e 2 true v6,y 3 true (.ca N.cZ 0 [] [.l 1,.l 0]),y 4 true (.un .not l0),u (.pk l5 l0 (.b false))] [] 0 (.reg [f 0 v7,u (.st l0 (.i 0) 1 [])] []) .skip) (.reg [m v5,h 2 v7,u (.bs [.l 0] 2),u (.app l2 l0 true 2),x 5 l0] [])))) (.reg [m v6,u (.bin .add l0 (.i 1)),x 6 l0] [])))
def pq:C:= .loop true [0,1,4,7,8,9,10,11,12,13] K.nW
def fe:C:= (.seq (.ite [m v10,f 1 v2,g l0,u (.ln l0),u (.bin .lss l3 l0)] [] 0 .skip (.exit 6)) (.seq (.blk 7 (q [h 2 v2,m v10,m v9,u (.ca N.dV 0 [] [.l 2,.l 1,.l 0]),m l0,u (.ex l0 0),u (.ex l1 1),x 11 l1,x 12 l1] [] (.seq (.ite [m v12,u (.bin .lss l0 (.i 0)),m l0,y 0 false (.fa v3 2),i 1 false l0,e 2 false v10,y 3 false (.ca N.cZ 0 [] [.l 1,.l 0]),u (.pk l4 (.b true) l0),m l0,y 0 false (.fa v3 1),i 1 false l0,e 2 false v11,y 3 false (.ca N.cZ 0 [] [.l 1,.l 0]),u (.pk l4 (.b true) l0),m l0,e 0 false v5,e 1 false v11,y 2 false (.ia l1 l0 2),y 3 false (.fa l0 0),i 4 false l0,y 5 false (.bin .geq l0 (.i 1099511627776)),u (.pk l6 (.b true) l0)] [] 0 (.exit 7) .skip) (q [w 13 (.al [z0,z0] []),m v5,m v11,a 2 l1 l0,f 0 l0,g l0,m v12,u (.bin .add l1 l0),m v5,m v11,a 2 l1 l0,f 1 l0,g l0,u (.bin .add l0 (.i 1)),u (.bd [z0,z0] [(0,1,.l 6),(1,1,.l 0)]),u (.st (.l 14) l0 2 [])] [] (.ite [h 2 v13,m v5,m v9,a 2 l1 l0,h 2 l0,u (.ca N.gO 0 [] [.l 4,.l 0])] [] 0 (.reg [m v5,m v9,h 2 v13,a 2 l2 l1,u (.st l0 l1 2 []),x 8 (.b true)] []) .skip))))) (.reg [m v10,u (.bin .add l0 (.i 1)),x 10 l0] [])))
def uH:C:= .loop true [0,1,4,6,7,11,12,13] K.fe
def lr:C:= (.seq (.ite [m v9,f 0 v2,g l0,u (.ln l0),u (.bin .lss l3 l0)] [] 0 .skip (.exit 4)) (.seq (.blk 5 (.seq (.ite [h 2 v2,h 4 v3,m v9,u (.ca N.eU 0 [] [.l 2,.l 1,.l 0])] [] 0 (.exit 5) .skip) (q [x 10 (.i 0)] [] (.blk 6 K.uH)))) (.reg [m v9,u (.bin .add l0 (.i 1)),x 9 l0] [])))
def uI:C:= .loop true [0,1,4,6,7,10,11,12,13] K.lr
def nX:C:= (.seq (.ite [m v8] [] 0 .skip (.exit 2)) (.blk 3 (q [x 8 (.b false)] [] (q [x 9 (.i 0)] [] (.blk 4 K.uI)))))
def uJ:C:= .loop true [0,1,4,6,7,9,10,11,12,13] K.nX
def gN:Fn:= { aP:=2,vars:=[0,1,2,3,4,5,6,7,8,9,10,11,12,13],body:=(q [w 2 (.bx v0 2),w 3 (.bx v1 4),w 4 (.mv (.c (.nil)))] [] (q [w 5 (.nw 2)] [] (.seq (q [x 6 (.i 0)] [] (.blk 0 K.pq)) (.seq (q [x 8 (.b true)] [] (.blk 2 K.uJ)) (q [m v5,x 4 l0] [] .ret))))),res:=[(4,none)]}
def oA:C:= (.seq (.ite [m v3,m v0,u (.ln l0),u (.bin .lss l2 l0),m l0,e 0 true v0,e 1 true v3,y 2 true (.ia l1 l0 1),i 3 true l0,e 4 true v1,y 5 true (.bin .lss l1 l0),u (.pk l6 l0 (.b false))] [] 0 .skip (.exit 0)) (.blk 1 (.reg [m v3,u (.bin .add l0 (.i 1)),x 3 l0] [])))
def Ay:C:= .loop true [2] K.oA
def jh:Fn:= { aP:=2,vars:=[0,1,4,5],body:=(q [w 2 (.mv (.c (.nil)))] [] (q [x 3 (.i 0)] [] (.seq (.blk 0 K.Ay) (.seq (.ite [m v3,m v0,u (.ln l0),u (.bin .lss l2 l0),m l0,e 0 true v0,e 1 true v3,y 2 true (.ia l1 l0 1),i 3 true l0,e 4 true v1,y 5 true (.bin .eql l1 l0),u (.pk l6 l0 (.b false))] [] 0 (q [m v0,u (.app (.c (.nil)) l0 true 1),x 2 l0] [] .ret) .skip) (q [m v0,m v3,u (.sc l1 none (some l0) 1),u (.app (.c (.nil)) l0 true 1),m v1,u (.bs [.l 0] 1),u (.app l2 l0 true 1),m v0,m v3,u (.sc l1 (some l0) none 1),u (.app l3 l0 true 1),x 2 l0] [(5,0),(9,0),(9,4)] .ret))))),res:=[(2,none)]}
def jN:Fn:= { aP:=3,vars:=[0,1,2,3,4,6],body:=(q [w 3 (.bx v0 2),w 4 (.bx v1 4),x 5 (.b false)] [] (q [h 2 v3,h 4 v4,u (.ca N.gT 0 [] [.l 1,.l 0]),m l0,e 0 true v2,y 1 true (.fa v3 0),i 2 true l0,y 3 true (.ln l0),y 4 true (.bin .sub l0 (.i 1)),y 5 true (.ca N.eI 0 [] [.l 4,.i 0,.l 0]),u (.pk l6 l0 (.b false)),x 5 l0] [] .ret)),res:=[(5,none)]}
def sF:C:= (.its [u (.bin .lss v16 v15)] [] 0 .skip (.exit 0) (.seq (.blk 1 (q [m v16,a 2 v14 v16,h 2 l0,w 7 (.al [z0,z1] []),x 6 l3,u (.st l1 l2 2 [])] [] (.reg [f 2 v5,g l0,m v6,f 1 v7,g l0,a 1 l3 l2,u (.st l0 l1 1 [])] []))) (.reg [u (.bin .add v16 (.i 1)),x 16 l0] [])))
def Az:C:= .loop true [0,1,6,7,8,9,10,11,12,13,17,18,19,20,21,22,23,24,25] K.sF
def sG:C:= (.its [u (.bin .lss v19 v18)] [] 0 .skip (.exit 2) (.seq (.blk 3 (q [a 1 v17 v19,g l0,x 8 l0] [] (.reg [f 2 v5,g l0,m v8,a 1 l1 l0,u (.st l0 (.b true) 1 [])] []))) (.reg [u (.bin .add v19 (.i 1)),x 19 l0] [])))
def AA:C:= .loop true [0,1,6,7,8,9,10,11,12,13,14,15,16,20,21,22,23,24,25] K.sG
def sH:C:= (.its [u (.bin .lss v22 v21)] [] 0 .skip (.exit 4) (.seq (.blk 5 (q [a 1 v20 v22,g l0,x 9 l0] [] (.reg [f 3 v5,g l0,m v9,a 1 l1 l0,u (.st l0 (.b true) 1 [])] []))) (.reg [u (.bin .add v22 (.i 1)),x 22 l0] [])))
def AB:C:= .loop true [0,1,6,7,8,9,10,11,12,13,14,15,16,17,18,19,23,24,25] K.sH
def jy:C:= (.its [u (.bin .lss (.v 25) (.v 24))] [] 0 .skip (.exit 6) (.seq (.blk 7 (q [m (.v 25),a 10 v23 (.v 25),h 10 l0,w 11 (.al [z0,z0,z0,z0,z1,z1,z0,z0,z0,z0] []),x 10 l3,u (.st l1 l2 10 [])] [] (.seq (.ite [f 2 v3,g l0,m v10,u (.ca N.aO 0 [] [.l 1,.l 0])] [] 0 (.exit 7) .skip) (.seq (q [h 2 v2,m v10,u (.ca N.ji 0 [] [.l 1,.l 0,.b false]),x 12 l0] [] (.ite [m v12,u (.bin .geq l0 (.i 0))] [] 0 (.reg [f 1 v5,g l0,m v10,f 0 v11,g l0,f 1 v11,g l0,m v12,u (.bd [z0,z0,z0,z0] [(0,1,.l 5),(1,1,.l 3),(2,1,.l 1),(3,1,.l 0)]),u (.bs [.l 0] 4),u (.app l8 l0 true 4),f 1 v5,u (.st l0 l1 1 [])] []) .skip)) (q [h 2 v2,m v10,u (.ca N.ji 0 [] [.l 1,.l 0,.b true]),x 13 l0] [] (.ite [m v13,u (.bin .geq l0 (.i 0))] [] 0 (.reg [f 1 v5,g l0,m v10,f 1 v11,g l0,f 0 v11,g l0,m v13,u (.bd [z0,z0,z0,z0] [(0,1,.l 5),(1,1,.l 3),(2,1,.l 1),(3,1,.l 0)]),u (.bs [.l 0] 4),u (.app l8 l0 true 4),f 1 v5,u (.st l0 l1 1 [])] []) .skip)))))) (.reg [u (.bin .add (.v 25) (.i 1)),x 25 l0] [])))
def AD:C:= .loop true [0,1,6,7,8,9,10,11,12,13,14,15,16,17,18,19,20,21,22] K.jy
def iF:Fn:= { aP:=2,vars:=[0,1,2,3,4,5,6,7,9,11,12,13,14,15,29,30,31,44,45,46,56,57,58,68,69,70],body:=(q [w 2 (.bx v0 2),w 3 (.bx v1 4),w 4 (.al [z0,.nil,.nil,.nil] [])] [] (q [w 5 (.al [z0,.nil,.nil,.nil] [(1,4)]),f 0 v2,g l0,u (.ln l0),f 0 v2,g l0,u (.ln l0),u (.mkn l0 (.bool false) 1),f 0 v2,g l0,u (.ln l0),u (.mkn l0 (.bool false) 1),u (.bd [z0,.nil,.nil,.nil] [(0,1,.l 8),(2,1,.l 4),(3,1,.l 0)]),u (.st (.l 12) l0 4 [(1,4)])] [(2,12),(5,12),(9,12)] (.seq (q [f 0 v2,w 14 (.ld l0 1 false),w 15 (.ln l0),x 16 (.i 0)] [] (.blk 0 K.Az)) (.seq (q [f 0 v3,w 17 (.ld l0 1 false),w 18 (.ln l0),x 19 (.i 0)] [] (.blk 2 K.AA)) (.seq (q [f 1 v3,w 20 (.ld l0 1 false),w 21 (.ln l0),x 22 (.i 0)] [] (.blk 4 K.AB)) (.seq (q [f 1 v2,w 23 (.ld l0 1 false),w 24 (.ln l0),x 25 (.i 0)] [] (.blk 6 K.AD)) (q [h 4 v5,u (.st v4 l0 4 [])] [] .ret))))))),res:=[(4,some (4,true))]}
def eV:C:= (.seq (.ite [f 2 v2,g l0,g v8,a 1 l1 l0,g l0,u (.un .not l0)] [] 0 .skip (.exit 0)) (.seq (.blk 1 (q [f 1 v2,g l0,u (.mf N.aE [.v 8,.v 2,.v 7]),u (.ca N.ax 0 [0] [.l 1,.l 0]),x 9 l0] [] (q [f 1 v2,g l0,m v9,a 4 l1 l0,f 2 l0,g l0,u (.st v8 l0 1 [])] [] (.reg [m v3,f 1 v2,g l0,m v9,a 4 l1 l0,f 0 l0,g l0,u (.bs [.l 0] 1),u (.app l7 l0 true 1),m v5,g v8,u (.bs [.l 0] 1),u (.app l2 l0 true 1),x 3 l4,x 5 l1] [(7,7),(10,0),(11,0)])))) (q [w 10 (.ld v8 1 false)] [] (.reg [w 8 (.al [z0] []),u (.st l0 v10 1 [])] []))))
def pt:C:= .loop false [0,4,6,9,10] K.eV
def bW:Fn:= { aP:=2,vars:=[0,1,2,4,5,6,7,8,9,10,51],body:=(q [w 2 (.bx v0 4),w 3 (.nw 1),x 4 (.i 0),w 5 (.nw 1),x 6 (.b false)] [] (q [h 4 v2,u (.ca N.cW 0 [0] [.l 0]),w 7 (.al [.nil] []),u (.st l0 l1 1 [])] [] (.seq (.ite [g v7,m v1,a 2 l1 l0,f 0 l0,g l0,u (.bin .geq l0 (.i 1152921504606846976))] [] 0 (q [w 3 (.nw 1),x 4 (.i 0),w 5 (.nw 1),x 6 (.b false)] [] .ret) .skip) (q [m v1,u (.bsr [.l 0] 1),x 5 l0] [] (.seq (q [m v1,w 8 (.al [z0] []),u (.st l0 l1 1 [])] [] (.blk 0 K.pt)) (q [m v3,g v7,m v1,a 2 l1 l0,f 0 l0,g l0,m v5,x 3 l6,x 4 l2,x 5 l2,x 6 (.b true)] [] .ret)))))),res:=[(3,none),(4,none),(5,none),(6,none)]}
def bQ:C:= (.seq (.ite [m v4,m v0,u (.ln l0),u (.bin .lss l2 l0)] [] 0 .skip (.exit 0)) (.seq (.blk 1 (q [m v0,m v4,a 4 l1 l0,h 4 l0,w 5 (.al [z0,z0,z0,z0] []),u (.st l0 l1 4 [])] [] (.ite [m v1,h 4 v5,u (.cw l1 0 [] [.l 0]),u (.un .not l0)] [] 0 (q [m v0,m v3,h 4 v5,a 4 l2 l1,u (.st l0 l1 4 [])] [] (.reg [m v3,u (.bin .add l0 (.i 1)),x 3 l0] [])) .skip))) (.reg [m v4,u (.bin .add l0 (.i 1)),x 4 l0] [])))
def fN:C:= .loop true [2,5] K.bQ
def aD:Fn:= { aP:=2,vars:=[0,1,4,5,6,7],body:=(q [w 2 (.mv (.c (.nil)))] [] (q [m v0,m v1,u (.ca N.ax 0 [0] [.l 1,.l 0]),x 3 l0] [] (.seq (.ite [m v3,u (.bin .eql l0 (.i (-1)))] [] 0 (q [m v0,x 2 l0] [] .ret) .skip) (.seq (q [m v3,u (.bin .add l0 (.i 1)),x 4 l0] [] (.blk 0 K.fN)) (q [m v0,m v3,u (.sc l1 (some l0) none 4),u (.clr l0 (.agg [(.int .i64 (0)),(.int .i64 (0)),(.int .i64 (0)),(.int .i64 (0))]) 4)] [] (q [m v0,m v3,u (.pop l1 l0),x 2 l0] [] .ret)))))),res:=[(2,none)]}
def dC:Fn:= { aP:=2,vars:=[0,1,2,3],body:=(q [w 2 (.bx v0 4),x 3 (.b false)] [] (q [g v1,f 0 v2,g l0,u (.ca N.aO 0 [] [.l 2,.l 0]),x 3 l0] [] .ret)),res:=[(3,none)]}
def ji:Fn:= { aP:=3,vars:=[0,1,2,3,6],body:=(q [w 3 (.bx v0 2),x 4 (.i 0)] [] (.seq (.ite [h 2 v3,u (.ca N.ec 0 [] [.l 0]),u (.un .not l0),m l0,e 0 false v1,y 1 false (.bin .lss l0 (.i 0)),u (.pk l2 (.b true) l0),m l0,e 0 false v1,y 1 false (.fa v3 1),i 2 false l0,y 3 false (.ln l0),y 4 false (.bin .geq l3 l0),u (.pk l5 (.b true) l0)] [] 0 (q [w 4 (.mv (.i (-1)))] [] .ret) .skip) (q [h 2 v3,m v1,m v2,u (.ca N.kX 0 [] []),u (.ca N.fA 0 [] [.l 3,.l 2,.l 1,.l 0]),x 4 l0] [(0,4)] .ret))),res:=[(4,none)]}
def cj:Fn:= { aP:=2,vars:=[4],body:= .fail,res:=[(0,none)],prim:=[4]}
def gO:Fn:= { aP:=2,vars:=[0,1,2,3,4],body:=(q [w 2 (.bx v0 2),w 3 (.bx v1 2),x 4 (.b false)] [] (q [f 0 v2,g l0,f 0 v3,g l0,u (.bin .lss l2 l0),m l0,y 0 false (.fa v2 0),i 1 false l0,y 2 false (.fa v3 0),i 3 false l0,y 4 false (.bin .eql l2 l0),e 5 false l0,y 0 true (.fa v2 1),i 1 true l0,y 2 true (.fa v3 1),i 3 true l0,y 4 true (.bin .lss l2 l0),y 11 false (.pk l5 l0 (.b false)),u (.pk (.l 12) (.b true) l0),x 4 l0] [] .ret)),res:=[(4,none)]}
def iG:C:= (.its [u (.bin .lss v9 v8)] [] 0 .skip (.exit 0) (.seq (.blk 1 (q [m v9,x 4 l0] [] (.ite [f 2 v1,g l0,m v4,a 1 l1 l0,g l0,u (.un .not l0)] [] 0 (.reg [m v3,m v4,a 2 l1 l0,f 0 l0,u (.st l0 (.i 1152921504606846976) 1 [])] []) .skip))) (.reg [u (.bin .add v9 (.i 1)),x 9 l0] [])))
def od:C:= .loop true [0,2,4,5,6,7,10,11,12] K.iG
def ef:C:= (.its [u (.bin .lss v12 v11)] [] 0 .skip (.exit 4) (.seq (.blk 5 (q [a 4 v10 v12,h 4 l0,w 6 (.al [z0,z0,z0,z0] []),u (.st l0 l1 4 [])] [] (q [w 7 (.al [z0,z0] []),m v3,f 2 v6,g l0,a 2 l2 l0,f 0 l0,g l0,f 3 v6,g l0,u (.bin .add l2 l0),m v3,f 2 v6,g l0,a 2 l2 l0,f 1 l0,g l0,u (.bin .add l0 (.i 1)),u (.bd [z0,z0] [(0,1,.l 7),(1,1,.l 0)]),u (.st (.l 17) l0 2 [])] [] (.ite [h 4 v1,h 4 v6,u (.ca N.b8 0 [0] [.l 1,.l 0]),m l0,e 0 true v3,y 1 true (.fa v6 2),i 2 true l0,y 3 true (.ia l2 l0 2),y 4 true (.fa l0 0),i 5 true l0,y 6 true (.bin .lss l0 (.i 1152921504606846976)),u (.pk l7 l0 (.b false)),m l0,y 0 true (.ld v7 2 true),e 1 true v3,y 2 true (.fa v6 1),i 3 true l0,y 4 true (.ia l2 l0 2),y 5 true (.ld l0 2 true),y 6 true (.ca N.eG 0 [] [.l 5,.l 0]),u (.pk l7 l0 (.b false))] [] 0 (.reg [m v3,f 1 v6,g l0,h 2 v7,a 2 l3 l1,u (.st l0 l1 2 []),x 5 (.b true)] []) .skip)))) (.reg [u (.bin .add v12 (.i 1)),x 12 l0] [])))
def oe:C:= .loop true [0,2,4,6,7,8,9] K.ef
def kh:C:= (.seq (.ite [m v5] [] 0 .skip (.exit 2)) (.blk 3 (q [x 5 (.b false)] [] (q [f 1 v1,w 10 (.ld l0 1 false),w 11 (.ln l0),x 12 (.i 0)] [] (.blk 4 K.oe)))))
def oh:C:= .loop true [0,2,4,6,7,8,9,10,11,12] K.kh
def cW:Fn:= { aP:=1,vars:=[0,1,2,3,4,5,7,8,13,14,30,31,32],body:=(q [w 1 (.bx v0 4),w 2 (.mv (.c (.nil)))] [] (q [f 0 v1,g l0,u (.mk l0 (.t (.agg [(.int .i64 (0)),(.int .i64 (0))])) 2),x 3 l0] [] (.seq (q [m v3,w 8 (.ln l0),x 9 (.i 0)] [] (.blk 0 K.od)) (.seq (q [x 5 (.b true)] [] (.blk 2 K.oh)) (q [m v3,x 2 l0] [] .ret))))),res:=[(2,none)]}
end Go.Ev.K
namespace Go.Ev
class eQ [Lib]:Prop where
 sI:Lib.fs N.dq=some K.dq
 sJ:Lib.fs N.iL=some K.iL
 kG:Lib.fs N.bM=some K.bM
 uK:Lib.fs N.gx=some K.gx
 pw:Lib.fs N.fT=some K.fT
 uL:Lib.fs N.fK=some K.fK
 sK:Lib.fs N.ie=some K.ie
 uM:Lib.fs N.eU=some K.eU
 sL:Lib.fs N.dV=some K.dV
 zG:Lib.fs N.j4=some K.j4
 zH:Lib.fs N.nf=some K.nf
 jz:Lib.fs N.bC=some K.bC
 gy:Lib.fs N.bc=some K.bc
 qy:Lib.fs N.gN=some K.gN
 xq:Lib.fs N.jh=some K.jh
 uO:Lib.fs N.jN=some K.jN
 xu:Lib.fs N.iF=some K.iF
 mK:Lib.fs N.bW=some K.bW
 dr:Lib.fs N.aD=some K.aD
 uP:Lib.fs N.dC=some K.dC
 xv:Lib.fs N.ji=some K.ji
 kj:Lib.fs N.cj=some K.cj
 qz:Lib.fs N.gO=some K.gO
 lF:Lib.fs N.cW=some K.cW
namespace K
variable [Lib] [eQ]
theorem sI:Lib.fs N.dq=some K.dq:=eQ.sI
theorem sJ:Lib.fs N.iL=some K.iL:=eQ.sJ
theorem kG:Lib.fs N.bM=some K.bM:=eQ.kG
theorem uK:Lib.fs N.gx=some K.gx:=eQ.uK
theorem pw:Lib.fs N.fT=some K.fT:=eQ.pw
theorem uL:Lib.fs N.fK=some K.fK:=eQ.uL
theorem sK:Lib.fs N.ie=some K.ie:=eQ.sK
theorem uM:Lib.fs N.eU=some K.eU:=eQ.uM
theorem sL:Lib.fs N.dV=some K.dV:=eQ.sL
theorem zG:Lib.fs N.j4=some K.j4:=eQ.zG
theorem zH:Lib.fs N.nf=some K.nf:=eQ.zH
theorem jz:Lib.fs N.bC=some K.bC:=eQ.jz
theorem gy:Lib.fs N.bc=some K.bc:=eQ.gy
theorem qy:Lib.fs N.gN=some K.gN:=eQ.qy
theorem xq:Lib.fs N.jh=some K.jh:=eQ.xq
theorem uO:Lib.fs N.jN=some K.jN:=eQ.uO
theorem xu:Lib.fs N.iF=some K.iF:=eQ.xu
theorem mK:Lib.fs N.bW=some K.bW:=eQ.mK
theorem dr:Lib.fs N.aD=some K.aD:=eQ.dr
theorem uP:Lib.fs N.dC=some K.dC:=eQ.uP
theorem xv:Lib.fs N.ji=some K.ji:=eQ.xv
theorem kj:Lib.fs N.cj=some K.cj:=eQ.kj
theorem qz:Lib.fs N.gO=some K.gO:=eQ.qz
theorem lF:Lib.fs N.cW=some K.cW:=eQ.lF
end K
end Go.Ev
namespace Go.Ev.K
open Go.Ev
def aS:C:= (.its [u (.bin .lss v5 v4)] [] 0 .skip (.exit 0) (.seq (.blk 1 (q [m v5,x 3 l0] [] (.ite [m v1,m v0,m v3,a 4 l1 l0,h 4 l0,u (.cw l4 0 [] [.l 0])] [] 0 (q [m v3,x 2 l0] [] .ret) .skip))) (.reg [u (.bin .add v5 (.i 1)),x 5 l0] [])))
def dt:C:= .loop true [2,3] K.aS
def ax:Fn:= { aP:=2,vars:=[0,1,4,5,7,8],body:=(q [x 2 (.i 0)] [] (.seq (q [m v0,w 4 (.ln l0),x 5 (.i 0)] [] (.blk 0 K.dt)) (q [w 2 (.mv (.i (-1)))] [] .ret))),res:=[(2,none)]}
def aE:Fn:= { aP:=4,vars:=[0,1,2,3,4,5],body:=(q [w 4 (.bx v0 4),x 5 (.b false)] [] (q [f 1 v4,g l0,g v1,u (.bin .eql l1 l0),m l0,y 0 true (.ld v2 4 true),y 1 true (.ld v4 4 true),y 2 true (.ca N.b8 0 [0] [.l 1,.l 0]),u (.pk l3 l0 (.b false)),m l0,i 0 true v3,y 1 true (.fa v4 2),i 2 true l0,y 3 true (.ia l2 l0 2),y 4 true (.ld l0 2 true),i 5 true v3,i 6 true v1,y 7 true (.ia l1 l0 2),y 8 true (.fa l0 0),i 9 true l0,y 10 true (.fa v4 3),i 11 true l0,y 12 true (.bin .sub l2 l0),i 13 true v3,i 14 true v1,y 15 true (.ia l1 l0 2),y 16 true (.fa l0 1),i 17 true l0,y 18 true (.bin .sub l0 (.i 1)),y 19 true (.bd [z0,z0] [(0,1,.l 6),(1,1,.l 0)]),y 20 true (.eqk (.ints 2) false (.l 15) l0),u (.pk (.l 21) l0 (.b false)),x 5 l0] [] .ret)),res:=[(5,none)]}
def b8:Fn:= { aP:=2,vars:=[0,1,2,3,4],body:=(q [w 2 (.bx v0 4),w 3 (.bx v1 4),x 4 (.b false)] [] (q [f 2 v2,g l0,f 1 v3,g l0,a 1 l2 l0,g l0,u (.un .not l0),m l0,y 0 true (.fa v2 3),i 1 true l0,y 2 true (.fa v3 2),i 3 true l0,y 4 true (.ia l2 l0 1),i 5 true l0,y 6 true (.un .not l0),u (.pk l7 l0 (.b false)),x 4 l0] [] .ret)),res:=[(4,none)]}
def kX:Fn:= { aP:=0,vars:=[0],body:=(q [w 0 (.al [z0,z0,z0] [])] [] (q [u (.bd [z0,z0,z0] [(0,1,.i 2),(1,1,.i 3),(2,1,.i 4)]),u (.st v0 l0 3 [])] [] .ret)),res:=[(0,some (3,true))]}
def eG:Fn:= { aP:=2,vars:=[0,1,2,3,4],body:=(q [w 2 (.bx v0 2),w 3 (.bx v1 2),x 4 (.b false)] [] (q [f 0 v2,g l0,f 0 v3,g l0,u (.bin .lss l2 l0),m l0,y 0 false (.fa v2 0),i 1 false l0,y 2 false (.fa v3 0),i 3 false l0,y 4 false (.bin .eql l2 l0),e 5 false l0,y 0 true (.fa v2 1),i 1 true l0,y 2 true (.fa v3 1),i 3 true l0,y 4 true (.bin .lss l2 l0),y 11 false (.pk l5 l0 (.b false)),u (.pk (.l 12) (.b true) l0),x 4 l0] [] .ret)),res:=[(4,none)]}
end Go.Ev.K
namespace Go.Ev
class jj [Lib]:Prop where
 cu:Lib.fs N.ax=some K.ax
 kH:Lib.fs N.aE=some K.aE
 kI:Lib.fs N.b8=some K.b8
 xw:Lib.fs N.kX=some K.kX
 nY:Lib.fs N.eG=some K.eG
namespace K
variable [Lib] [jj]
theorem cu:Lib.fs N.ax=some K.ax:=jj.cu
theorem kH:Lib.fs N.aE=some K.aE:=jj.kH
theorem kI:Lib.fs N.b8=some K.b8:=jj.kI
theorem xw:Lib.fs N.kX=some K.kX:=jj.xw
theorem nY:Lib.fs N.eG=some K.eG:=jj.nY
end K
end Go.Ev
namespace Go.Ev
open Go
variable [Lib] [bX] [bJ] [fR] [fS] [iK] [fy] [fo] [gU] [fM] [cV] [cI] [fB] [eu] [jb] [iE] [gl] [eQ] [jj]
structure Esc where
 safe:List Int
 bad:List Int
 shut:List Int
 b9:Int
instance : Dat Esc := ⟨⟨[], [], [], 0⟩⟩
abbrev Esc.e(e:Esc):T:= .agg [tL e.safe,tL e.bad,tL e.shut,tI e.b9]
structure Esc.ok(m:aC)(e:Esc):Prop where
 s:rq e.safe m.aa.length=true
 b:rq e.bad m.aa.length=true
 h:rq e.shut m.roads.length=true
 l0:0≤e.b9
 l1:e.b9≤2147483648
theorem Esc.ok.sl{m:aC}{e:Esc}(hm:m.ok)(h:e.ok m):e.safe.length≤64:=by
 have:=pP h.s;have:=hm.np;omega
theorem Esc.ok.bl{m:aC}{e:Esc}(hm:m.ok)(h:e.ok m):e.bad.length≤64:=by
 have:=pP h.b;have:=hm.np;omega
theorem Esc.ok.hl{m:aC}{e:Esc}(hm:m.ok)(h:e.ok m):e.shut.length≤128:=by
 have:=pP h.h;have:=hm.nr;omega
abbrev kt(m:aC)(k:Nat)(back:Bool):Int:=iC m k back 2 3 4
theorem VS{l s:Int}(l0:1≤l)(l1:l≤100000)(h:s=2∨s=3∨s=4):1≤(10*l+s-1).tdiv s∧(10*l+s-1).tdiv s≤500001:=by
 rcases h with rfl | rfl | rfl
 · rw[Int.tdiv_eq_ediv_of_nonneg (by omega)];omega
 · rw[Int.tdiv_eq_ediv_of_nonneg (by omega)];omega
 · rw[Int.tdiv_eq_ediv_of_nonneg (by omega)];omega
theorem lu{m:aC}(h:m.ok)(k:Nat)(hk:k<m.roads.length)(back:Bool):kt m k back= -1∨1≤kt m k back∧kt m k back≤500001:=by
 have l0:=(h.rs _ (ai hk)).l0
 have l1:=(h.rs _ (ai hk)).l1
 unfold kt iC
 simp only
 split
 · exact .inl rfl
 · refine .inr (VS l0 l1 ?_)
   repeat' split
   all_goals first | exact .inl rfl | exact .inr (.inl rfl) | exact .inr (.inr rfl)
theorem TM:aH 0 N.kX [] []=some (.t (.agg [tI 2,tI 3,tI 4]),[]):=by
 refine av K.xw rfl ?_
 simp(disch:=omega)only[go_sem,K.kX,↓reduceIte,reduceAdd,reduceSub]
theorem sM{m:aC}(h:m.ok)(k:Nat)(hk:k<m.roads.length)(back:Bool):aH 0 N.ji [.t m.e,I k,B back] []=some (I (kt m k back),[]):=by
 refine av K.xv rfl ?_
 have hv:=jk h
 have hw:=Pr h k hk back 2 3 4 (by omega) (by omega) (by omega) (by omega) (by omega) (by omega)
 have hs:=TM
 have nr:=h.nr
 obtain⟨aa,roads⟩:=m
 simp only at*
 simp(disch:=omega)only[go_sem,K.ji,↓reduceIte,hv,hw,hs,reduceAdd,reduceSub]
theorem Bg{m:aC}(h:m.ok)(k:Nat)(hk:k<m.roads.length)(back:Bool):aH 0 N.fK [.t m.e,I k,B back] []=some (I (kt m k back),[]):=by
 refine av K.uL rfl ?_
 have hw:=GI h k hk back 2 3 4 (by omega) (by omega) (by omega) (by omega) (by omega) (by omega)
 simp(disch:=omega)only[go_sem,K.fK,↓reduceIte,hw,reduceAdd,reduceSub]
theorem AE{m:aC}(hm:m.ok){e:Esc}(he:e.ok m):aH 0 N.gT [.t m.e,.t e.e] []=some (B true,[]):=by
 refine av K.uE rfl ?_
 have hv:=jk hm
 have r1:=qW e.safe 0 (m.aa.length-1) (by have:=he.sl hm;omega)
 have r2:=qW e.bad 0 (m.aa.length-1) (by have:=he.bl hm;omega)
 have r3:=qW e.shut 0 (m.roads.length-1) (by have:=he.hl hm;omega)
 rw[zA,he.s]at r1
 rw[zA,he.b]at r2
 rw[zA,he.h]at r3
 have r4:=C3 e.b9 0 2147483648
 have:=he.l0
 have:=he.l1
 have np:=hm.np
 have nr:=hm.nr
 rw[decide_eq_true (by omega)]at r4
 obtain⟨aa,roads⟩:=m
 obtain⟨safe,bad,shut,b9⟩:=e
 simp only at*
 simp(disch:=omega)only[go_sem,K.gT,↓reduceIte,hv,r1,r2,r3,r4,reduceAdd,reduceSub]
theorem Hp{m:aC}(hm:m.ok){e:Esc}(he:e.ok m)(p:Nat)(hp:p<m.aa.length):aH 0 N.jN [.t m.e,.t e.e,I p] []=some (B true,[]):=by
 refine av K.uO rfl ?_
 have hv:=AE hm he
 have r4:=C3 p 0 (m.aa.length-1)
 have np:=hm.np
 rw[decide_eq_true (by omega)]at r4
 obtain⟨aa,roads⟩:=m
 obtain⟨safe,bad,shut,b9⟩:=e
 simp only at*
 simp(disch:=omega)only[go_sem,K.jN,↓reduceIte,hv,r4,reduceAdd,reduceSub]
theorem Lg{m:aC}(hm:m.ok){e:Esc}(he:e.ok m):aH 0 N.ie [.t m.e,.t e.e] []=some (B true,[]):=by
 refine av K.sK rfl ?_
 have hv:=pO hm
 have r1:=KD e.safe m.aa.length (by have:=he.sl hm;omega)
 have r2:=KD e.bad m.aa.length (by have:=he.bl hm;omega)
 have r3:=KD e.shut m.roads.length (by have:=he.hl hm;omega)
 rw[he.s]at r1
 rw[he.b]at r2
 rw[he.h]at r3
 have:=he.l0
 have:=he.l1
 have np:=hm.np
 have nr:=hm.nr
 obtain⟨aa,roads⟩:=m
 obtain⟨safe,bad,shut,b9⟩:=e
 simp only at*
 simp(disch:=omega)only[go_sem,K.ie,↓reduceIte,hv,r1,r2,r3,reduceAdd,reduceSub]
def sfF(m:aC)(e:Esc)(p:Nat):Bool:=(nth m.aa p).surf||decide ((p:Int)∈e.safe)
def bdF(e:Esc)(p:Nat):Bool:=decide ((p:Int)∈e.bad)
theorem sN{m:aC}(hm:m.ok){e:Esc}(hl:e.safe.length≤1000)(p:Nat)(hp:p<m.aa.length):aH 0 N.eU [.t m.e,.t e.e,I p] []=some (B (sfF m e p),[]):=by
 refine av K.uM rfl ?_
 have hh:=mO e.safe p (by omega)
 have np:=hm.np
 unfold sfF
 cases hx:(nth m.aa p).surf with
 | true=>simp(disch:=omega)only[go_sem,K.eU,↓reduceIte,hx,Bool.true_or,reduceAdd,reduceSub]
 | false=>
   simp(disch:=omega)only[go_sem,K.eU,↓reduceIte,hx,hh,Bool.false_or,reduceAdd,reduceSub]
def jm(m:aC)(r p:Nat):Int×Int:=
 if(nth m.roads r).frm=p then((nth m.roads r).to,kt m r false)
 else if(nth m.roads r).to=p then((nth m.roads r).frm,kt m r true)else(0, -1)
theorem uQ{m:aC}(hm:m.ok)(r:Nat)(hr:r<m.roads.length)(p:Nat)(hp:p<m.aa.length):aH 0 N.dV [.t m.e,I r,I p] []=some (.tup [I (jm m r p).1,I (jm m r p).2],[]):=by
 refine av K.sL rfl ?_
 have s1:=Bg hm r hr false
 have s2:=Bg hm r hr true
 have nr:=hm.nr
 have ex:(m.roads.map Road.e)[r]?=some (nth m.roads r).e:=bR _ hr
 unfold jm
 generalize kt m r false=w1 at*
 generalize kt m r true=w2 at*
 generalize nth m.roads r=x at*
 obtain⟨frm,to,len,ar,walk,closed,rl,rh,ll,lh⟩:=x
 simp only at*
 by_cases c1:frm=p
 · simp(disch:=omega)only[go_sem,K.dV,↓reduceIte,ex,s1,s2,c1,reduceAdd,reduceSub]
 · by_cases c2:to=p
   · simp(disch:=omega)only[go_sem,K.dV,↓reduceIte,ex,s1,s2,c1,c2,reduceAdd,reduceSub]
   · simp(disch:=omega)only[go_sem,K.dV,↓reduceIte,ex,s1,s2,c1,c2,reduceAdd,reduceSub]
theorem MQ(x y:Lab):aH 0 N.gO [.t (.agg [tI x.t,tI x.r]),.t (.agg [tI y.t,tI y.r])] []=some (B (nV x y),[]):=by
 refine av K.qz rfl ?_
 obtain⟨a,b⟩:=x
 obtain⟨c,d⟩:=y
 unfold nV
 simp only
 by_cases c1:a<c<;>by_cases c2:a=c<;>by_cases c3:b<d
 all_goals simp(disch:=omega)only[go_sem,K.gO,↓reduceIte,c1,c2,c3,decide_true,decide_false,Bool.or_true,Bool.or_false,Bool.and_true,Bool.and_false,Bool.true_or,Bool.false_or,Bool.and_self,Bool.or_self,Int.lt_irrefl,reduceAdd,reduceSub]
theorem TN(x y:Lab):aH 0 N.eG [.t (.agg [tI x.t,tI x.r]),.t (.agg [tI y.t,tI y.r])] []=some (B (nV x y),[]):=by
 refine av K.nY rfl ?_
 obtain⟨a,b⟩:=x
 obtain⟨c,d⟩:=y
 unfold nV
 simp only
 by_cases c1:a<c<;>by_cases c2:a=c<;>by_cases c3:b<d
 all_goals simp(disch:=omega)only[go_sem,K.eG,↓reduceIte,c1,c2,c3,decide_true,decide_false,Bool.or_true,Bool.or_false,Bool.and_true,Bool.and_false,Bool.true_or,Bool.false_or,Bool.and_self,Bool.or_self,Int.lt_irrefl,reduceAdd,reduceSub]
abbrev Edge.e(e:Edge):T:= .agg [tI e.r,tI e.a,tI e.b,tI e.t]
abbrev Lab.e(x:Lab):T:= .agg [tI x.t,tI x.r]
abbrev oK(E:List Edge)(ep:Nat):Obj:= .arr 4 false ep ((E.map Edge.e).map .t)
abbrev kJ(l:List Bool):Obj:= .arr 1 false 0 ((l.map T.bool).map .t)
abbrev MR(L:List Lab):Obj:= .arr 2 false 0 ((L.map Lab.e).map .t)
abbrev CY(i:Nat)(E:List Edge)(ep n:Nat):List D:=[I n,.ref i ep E.length,.ref (i+1) 0 n,.ref (i+2) 0 n]
def uB(sf bd:List Bool)(e:Edge):Bool:= !(nth sf e.a)&& !(nth bd e.b)
theorem Hq(E:List Edge)(sf bd:List Bool)(ep n:Nat)(hs:sf.length=n)(hb:bd.length=n)(hn:n≤64)(e:Edge)(he:e.ok n):
 aH 0 N.b8 [.agg (CY 0 E ep n),.t e.e] [oK E ep,kJ sf,kJ bd]=some (B (uB sf bd e),[oK E ep,kJ sf,kJ bd]):=by
 refine av K.kI rfl ?_
 obtain⟨r,a,b,t⟩:=e
 obtain⟨h1,h2,h3,h4⟩:=he
 simp only at h1 h2 h3 h4
 unfold uB
 simp only
 cases hx:nth sf a<;>cases hy:nth bd b
 all_goals simp(disch:=omega)only[go_sem,K.b8,↓reduceIte,hx,hy,Bool.not_true,Bool.not_false,Bool.false_and,Bool.true_and,reduceAdd,reduceSub]
def qA(F:Int)(sf:List Bool)(n j:Nat):List Lab:=(List.range n).map fun p=>if decide (p<j)&& !(nth sf p)then⟨F,0⟩else⟨0,0⟩
theorem q9(F:Int)(sf:List Bool)(n j:Nat):(qA F sf n j).length=n:=by simp[qA]
theorem nC(F:Int)(sf:List Bool)(n j:Nat){p:Nat}(hp:p<n):nth (qA F sf n j) p=if decide (p<j)&& !(nth sf p)then⟨F,0⟩else⟨0,0⟩:=by
 refine bD ?_
 unfold qA
 rw[aLn,aLp hp]
 rfl
theorem MS(F:Int)(sf:List Bool)(n:Nat):(qA F sf n 0).map Lab.e=List.replicate n (.agg [tI 0,tI 0]):=by
 unfold qA
 refine List.ext_getElem? fun i=>?_
 simp only[aLn,List.getElem?_replicate]
 by_cases hi:i<n
 · rw[aLp hi];simp[hi]
 · rw[aLm (by simpa using hi)];simp[hi]
theorem MT{F:Int}{sf:List Bool}{n j:Nat}(hj:j<n)(h:nth sf j=false):qA F sf n (j+1)=(qA F sf n j).set j ⟨F,0⟩:=by
 refine List.ext_getElem? fun i=>?_
 by_cases hi:i=j
 · subst hi
   rw[aLj (by rw[q9];exact hj),c7 (by rw[q9];exact hj),nC F sf n _ hj]
   simp[h]
 · rw[aLi (by omega)]
   unfold qA
   rw[aLn,aLn]
   by_cases hn:i<n
   · rw[aLp hn]
     have:(decide (i<j+1))=decide (i<j):=decide_eq_decide.2 (by omega)
     simp only[aLw,this]
   · rw[aLm (by simpa using hn)];rfl
theorem MU{F:Int}{sf:List Bool}{n j:Nat}(h:nth sf j=true):qA F sf n (j+1)=qA F sf n j:=by
 unfold qA
 refine List.map_congr_left fun p hp=>?_
 by_cases c:p=j
 · subst c;simp[h]
 · have:(decide (p<j+1))=decide (p<j):=by
    by_cases d:p<j
    · simp[d];omega
    · simp[d];omega
   rw[this]
theorem Jr(L:List Lab)(j:Nat)(a b:Int):(List.map D.t (List.map Lab.e L)).set j (D.t (T.agg [T.int .i64 a,T.int .i64 b]))=List.map D.t (List.map Lab.e (L.set j ⟨a,b⟩)):=by
 simp only[List.map_set]
abbrev j5:Int:=1152921504606846976
theorem TO(E:List Edge)(sf bd:List Bool)(ep n:Nat)(hs:sf.length=n)(hb:bd.length=n)(hn:n≤64)(z0 z2 z4 z5 z6 z7 z10 z11 z12:D):
 exS aH K.od ⟨[z0,.bp 3 0,z2,.ref 4 0 n,z4,z5,z6,z7,I n,I 0,z10,z11,z12],[oK E ep,kJ sf,kJ bd,.box (CY 0 E ep n),MR (qA j5 sf n 0)]⟩=
  some (.exit 0,⟨[.und,.bp 3 0,.und,.ref 4 0 n,.und,.und,.und,.und,I n,I n,.und,.und,.und],[oK E ep,kJ sf,kJ bd,.box (CY 0 E ep n),MR (qA j5 sf n n)]⟩):=by
 refine bz (fun j=>⟨[.und,.bp 3 0,.und,.ref 4 0 n,.und,.und,.und,.und,I n,I j,.und,.und,.und],[oK E ep,kJ sf,kJ bd,.box (CY 0 E ep n),MR (qA j5 sf n j)]⟩) n rfl ?_ ?_ (by simp)
 · intro j hj
   have ln:=q9 j5 sf n j
   have hx:=nC j5 sf n j hj
   rw[decide_eq_false (Nat.lt_irrefl j)]at hx
   simp only[Bool.false_and,aLt,↓reduceIte]at hx
   cases hc:nth sf j with
   | true=>
     rw[MU hc]
     simp(disch:=omega)only[go_sem,K.iG,↓reduceIte,hc,Bool.not_true,reduceAdd,reduceSub]
   | false=>
     rw[MT hj hc]
     generalize qA j5 sf n j=L at*
     simp(disch:=omega)only[go_sem,K.iG,↓reduceIte,hc,hx,Bool.not_false,Jr,reduceAdd,reduceSub]
 · have ln:=q9 j5 sf n n
   simp(disch:=omega)only[go_sem,K.iG,↓reduceIte,reduceAdd,reduceSub]
theorem Qx(F:Int)(u:Edge→Bool)(E:List Edge)(L:List Lab)(c:Bool)(j:Nat):sD F u E L c (j+1)=(NH F u (sD F u E L c j).1 (nth E j),(sD F u E L c j).2||FM F u (sD F u E L c j).1 (nth E j)):=rfl
theorem TP(E:List Edge)(sf bd:List Bool)(ep n:Nat)(hs:sf.length=n)(hb:bd.length=n)(hn:n≤64)(hE:∀e∈E,e.ok n)(hl:E.length≤1000)(L:List Lab)(hL:C8 j5 n L)(z0 z2 z4 z6 z7 z8 z9:D):
 exS aH K.oe ⟨[z0,.bp 3 0,z2,.ref 4 0 n,z4,B false,z6,z7,z8,z9,.ref 0 ep E.length,I E.length,I 0],[oK E ep,kJ sf,kJ bd,.box (CY 0 E ep n),MR L]⟩=
  some (.exit 4,⟨[.und,.bp 3 0,.und,.ref 4 0 n,.und,B (sD j5 (uB sf bd) E L false E.length).2,.und,.und,.und,.und,.ref 0 ep E.length,I E.length,I E.length],[oK E ep,kJ sf,kJ bd,.box (CY 0 E ep n),MR (sD j5 (uB sf bd) E L false E.length).1]⟩):=by
 refine bz (fun j=>⟨[.und,.bp 3 0,.und,.ref 4 0 n,.und,B (sD j5 (uB sf bd) E L false j).2,.und,.und,.und,.und,.ref 0 ep E.length,I E.length,I j],[oK E ep,kJ sf,kJ bd,.box (CY 0 E ep n),MR (sD j5 (uB sf bd) E L false j).1]⟩) E.length rfl ?_ ?_ (by simp)
 · intro j hj
   rw[Qx]
   have li:=(Aw hE hL (u:=uB sf bd) j (by omega)).1
   generalize (sD j5 (uB sf bd) E L false j).1=M at*
   generalize (sD j5 (uB sf bd) E L false j).2=c at*
   have he:=hE _ (ai hj)
   have us:=Hq E sf bd ep n hs hb hn _ he
   unfold NH FM qu
   generalize he':nth E j=e at*
   generalize uB sf bd e=ub at*
   obtain⟨er,a,b,t⟩:=e
   obtain⟨h1,h2,h3,h4⟩:=he
   simp only at h1 h2 h3 h4
   have ls:=TN ⟨(nth M b).t+t,(nth M b).r+1⟩ (nth M a)
   have q1:=li.t0 b h2
   have q2:=li.t1 b h2
   have q3:=li.r0 b h2
   have q4:=li.r1 b h2
   have ml:=li.l
   generalize hx:nth M a=x at*
   generalize hy:nth M b=y at*
   obtain⟨xt,xr⟩:=x
   obtain⟨yt,yr⟩:=y
   simp only at*
   generalize hlv:nV ⟨yt+t,yr+1⟩ ⟨xt,xr⟩=lv at*
   have e1:(M.map Lab.e)[a]?=some (Lab.e ⟨xt,xr⟩):=by rw[← hx];exact bR _ (by omega)
   cases ub with
   | false=>
     simp(disch:=omega)only[go_sem,K.ef,↓reduceIte,us,ls,e1,hx,hy,he',Bool.false_and,Bool.or_false,reduceAdd,reduceSub]
   | true=>
     by_cases hf:yt<1152921504606846976
     · cases lv with
       | false=>
         simp(disch:=omega)only[go_sem,K.ef,↓reduceIte,us,ls,e1,hx,hy,he',hf,decide_true,Bool.and_false,Bool.true_and,Bool.or_false,reduceAdd,reduceSub]
       | true=>
         simp(disch:=omega)only[go_sem,K.ef,↓reduceIte,us,ls,e1,hx,hy,he',hf,decide_true,Bool.and_true,Bool.true_and,Bool.or_true,Jr,reduceAdd,reduceSub]
     · simp(disch:=omega)only[go_sem,K.ef,↓reduceIte,us,ls,e1,hx,hy,he',hf,decide_false,Bool.and_false,Bool.false_and,Bool.or_false,reduceAdd,reduceSub]
 · simp(disch:=omega)only[go_sem,K.ef,↓reduceIte,reduceAdd,reduceSub]
theorem Js(F:Int)(hF:0≤F)(sf:List Bool)(n j:Nat):C8 F n (qA F sf n j) where
 l:=q9 F sf n j
 t0:=fun p hp=>by rw[nC F sf n j hp];split<;>simp<;>omega
 t1:=fun p hp=>by rw[nC F sf n j hp];split<;>simp<;>omega
 r0:=fun p hp=>by rw[nC F sf n j hp];split<;>simp
 r1:=fun p hp=>by rw[nC F sf n j hp];split<;>simp<;>omega
def iH(E:List Edge)(sf bd:List Bool)(n:Nat):List Lab:=La j5 (uB sf bd) E (qA j5 sf n n)
theorem TQ(E:List Edge)(sf bd:List Bool)(ep n:Nat)(hs:sf.length=n)(hb:bd.length=n)(hn:n≤64)(hE:∀e∈E,e.ok n)(hl:E.length≤1000)(z0 z2 z4 z6 z7 z8 z9 z10 z11 z12:D):
 exS aH K.oh ⟨[z0,.bp 3 0,z2,.ref 4 0 n,z4,B true,z6,z7,z8,z9,z10,z11,z12],[oK E ep,kJ sf,kJ bd,.box (CY 0 E ep n),MR (qA j5 sf n n)]⟩=
  some (.exit 2,⟨[.und,.bp 3 0,.und,.ref 4 0 n,.und,B false,.und,.und,.und,.und,.und,.und,.und],[oK E ep,kJ sf,kJ bd,.box (CY 0 E ep n),MR (iH E sf bd n)]⟩):=by
 refine(zo (fun L c=>⟨[.und,.bp 3 0,.und,.ref 4 0 n,.und,B c,.und,.und,.und,.und,.und,.und,.und],[oK E ep,kJ sf,kJ bd,.box (CY 0 E ep n),MR L]⟩)
  (fun L=>(.exit 2,⟨[.und,.bp 3 0,.und,.ref 4 0 n,.und,B false,.und,.und,.und,.und,.und,.und,.und],[oK E ep,kJ sf,kJ bd,.box (CY 0 E ep n),MR L]⟩))
  (fun L=>sD j5 (uB sf bd) E L false E.length) (C8 j5 n) (RS j5) ?_ ?_ ?_ _ (Js j5 (by decide) sf n n) rfl).1
 · intro L hL
   have h:=Aw hE hL (u:=uB sf bd) E.length (aLs _)
   exact⟨h.1,h.2.2.1⟩
 · intro L hL
   have l3:=TP E sf bd ep n hs hb hn hE hl L hL
   have ln:=hL.l
   simp(disch:=omega)only[go_sem,K.kh,↓reduceIte,l3,reduceAdd,reduceSub]
 · intro L hL
   refine⟨?_,by simp⟩
   simp(disch:=omega)only[go_sem,K.kh,↓reduceIte,reduceAdd,reduceSub]
theorem Qy(E:List Edge)(sf bd:List Bool)(n:Nat)(hE:∀e∈E,e.ok n):(iH E sf bd n).length=n:=by
 unfold iH La
 exact(D2 (C8 j5 n) (fun l h=>(Aw hE h (u:=uB sf bd) E.length (aLs _)).1) _ _ (Js j5 (by decide) sf n n)).l
theorem TR(E:List Edge)(sf bd:List Bool)(ep n:Nat)(hs:sf.length=n)(hb:bd.length=n)(hn:n≤64)(hE:∀e∈E,e.ok n)(hl:E.length≤1000):
 aH 0 N.cW [.agg (CY 0 E ep n)] [oK E ep,kJ sf,kJ bd]=some (.t (.sl ((iH E sf bd n).map Lab.e)),[oK E ep,kJ sf,kJ bd]):=by
 refine av K.lF rfl ?_
 have l1:=TO E sf bd ep n hs hb hn
 have l2:=TQ E sf bd ep n hs hb hn hE hl
 have ln:=Qy E sf bd n hE
 have l0:=q9 j5 sf n n
 generalize iH E sf bd n=r at*
 have z:=MS j5 sf n
 have z2:List.replicate n (D.t (T.agg [tI 0,tI 0]))=((qA j5 sf n 0).map Lab.e).map D.t:=by rw[z,List.map_replicate]
 simp(disch:=omega)only[go_sem,K.cW,↓reduceIte,l1,l2,z2,reduceAdd,reduceSub]
theorem Lh(E:List Edge)(sf bd:List Bool)(ep n:Nat)(hs:sf.length=n)(hb:bd.length=n)(hn:n≤64)(L:List Lab)(hL:C8 j5 n L)(p:Nat)(hp:p<n)(e:Edge)(he:e.ok n):
 aH 0 N.aE [.t e.e,.bp 0 0,.bp 1 0,.bp 2 0] [.box [I p],.box (CY 3 E ep n),.box [.t (.sl (L.map Lab.e))],oK E ep,kJ sf,kJ bd]=
  some (B (uC (uB sf bd) L p e),[.box [I p],.box (CY 3 E ep n),.box [.t (.sl (L.map Lab.e))],oK E ep,kJ sf,kJ bd]):=by
 refine av K.kH rfl ?_
 have us:=Hq E sf bd ep n hs hb hn e he
 unfold uC
 obtain⟨r,a,b,t⟩:=e
 obtain⟨h1,h2,h3,h4⟩:=he
 simp only at h1 h2 h3 h4
 simp only at*
 generalize uB sf bd ⟨r,a,b,t⟩=ub at*
 have ml:=hL.l
 have q1:=hL.t0 b h2
 have q2:=hL.t1 b h2
 have q3:=hL.r0 b h2
 have q4:=hL.r1 b h2
 have w1:=hL.t0 p hp
 have w2:=hL.t1 p hp
 have w3:=hL.r0 p hp
 have w4:=hL.r1 p hp
 have e1:(L.map Lab.e)[b]?=some (nth L b).e:=bR _ (by omega)
 have e2:(L.map Lab.e)[p]?=some (nth L p).e:=bR _ (by omega)
 generalize nth L b=x at*
 generalize nth L p=y at*
 obtain⟨xt,xr⟩:=x
 obtain⟨yt,yr⟩:=y
 simp only[Lab.mk.injEq]at*
 have fc:j5=1152921504606846976:=rfl
 have v1:IntKind.i64.wrap (yt-t)=yt-t:=wS (by omega) (by omega)
 have v2:IntKind.i64.wrap (yr-1)=yr-1:=wS (by omega) (by omega)
 by_cases c1:a=p
 · subst c1
   cases ub with
   | false=>simp(disch:=omega)only[go_sem,K.aE,↓reduceIte,us,Bool.and_false,Bool.false_and,decide_true,Bool.true_and,reduceAdd,reduceSub]
   | true=>
     by_cases c2:xt=yt-t<;>by_cases c3:xr=yr-1
     all_goals simp(disch:=omega)only[go_sem,K.aE,↓reduceIte,us,e1,e2,v1,v2,c2,c3,decide_true,Bool.and_self,decide_false,Bool.and_false,Bool.true_and,and_self,and_true,and_false,reduceAdd,reduceSub]
 · simp(disch:=omega)only[go_sem,K.aE,↓reduceIte,us,c1,decide_false,Bool.false_and,reduceAdd,reduceSub]
theorem MV(E:List Edge)(sf bd:List Bool)(ep n:Nat)(hs:sf.length=n)(hb:bd.length=n)(hn:n≤64)(hE:∀e∈E,e.ok n)(hl:E.length≤1000)(L:List Lab)(hL:C8 j5 n L)(p:Nat)(hp:p<n):
 aH 0 N.ax [.ref 0 ep E.length,.fn N.aE [.bp 1 0,.bp 2 0,.bp 3 0]] [oK E ep,.box [I p],.box [I n,.ref 0 ep E.length,.ref 4 0 n,.ref 5 0 n],.box [.t (.sl (L.map Lab.e))],kJ sf,kJ bd]=
  some (I (match (List.range E.length).find? (fun j=>uC (uB sf bd) L p (nth E j))with | some j=>(j:Int) | none=> -1),[oK E ep,.box [I p],.box [I n,.ref 0 ep E.length,.ref 4 0 n,.ref 5 0 n],.box [.t (.sl (L.map Lab.e))],kJ sf,kJ bd]):=by
 refine av K.cu rfl ?_
 have loop:∀z2 z3:D,exS aH K.dt ⟨[.ref 0 ep E.length,.fn N.aE [.bp 1 0,.bp 2 0,.bp 3 0],z2,z3,I E.length,I 0],[oK E ep,.box [I p],.box [I n,.ref 0 ep E.length,.ref 4 0 n,.ref 5 0 n],.box [.t (.sl (L.map Lab.e))],kJ sf,kJ bd]⟩=
  some (match (List.range E.length).find? (fun j=>uC (uB sf bd) L p (nth E j))with
   | some j=>(.ret,⟨[.ref 0 ep E.length,.fn N.aE [.bp 1 0,.bp 2 0,.bp 3 0],I j,I j,I E.length,I j],[oK E ep,.box [I p],.box [I n,.ref 0 ep E.length,.ref 4 0 n,.ref 5 0 n],.box [.t (.sl (L.map Lab.e))],kJ sf,kJ bd]⟩)
   | none=>(.exit 0,⟨[.ref 0 ep E.length,.fn N.aE [.bp 1 0,.bp 2 0,.bp 3 0],.und,.und,I E.length,I E.length],[oK E ep,.box [I p],.box [I n,.ref 0 ep E.length,.ref 4 0 n,.ref 5 0 n],.box [.t (.sl (L.map Lab.e))],kJ sf,kJ bd]⟩)):=by
  intro z2 z3
  refine cq (fun j=>⟨[.ref 0 ep E.length,.fn N.aE [.bp 1 0,.bp 2 0,.bp 3 0],.und,.und,I E.length,I j],[oK E ep,.box [I p],.box [I n,.ref 0 ep E.length,.ref 4 0 n,.ref 5 0 n],.box [.t (.sl (L.map Lab.e))],kJ sf,kJ bd]⟩) E.length (fun j=>uC (uB sf bd) L p (nth E j)) _ _ rfl ?_ ?_ ?_ (by simp)
  · intro j hj hp'
    have b1:=Lh E sf bd ep n hs hb hn L hL p hp _ (hE _ (ai hj))
    rw[hp']at b1
    simp(disch:=omega)only[go_sem,K.aS,↓reduceIte,b1,reduceAdd,reduceSub]
  · intro j hj hp'
    have b1:=Lh E sf bd ep n hs hb hn L hL p hp _ (hE _ (ai hj))
    rw[hp']at b1
    refine⟨?_,by simp⟩
    simp(disch:=omega)only[go_sem,K.aS,↓reduceIte,b1,reduceAdd,reduceSub]
  · simp(disch:=omega)only[go_sem,K.aS,↓reduceIte,reduceAdd,reduceSub]
 cases hf:(List.range E.length).find? (fun j=>uC (uB sf bd) L p (nth E j))with
 | some j=>
   rw[hf]at loop
   simp(disch:=omega)only[go_sem,K.ax,↓reduceIte,loop,reduceAdd,reduceSub]
 | none=>
   rw[hf]at loop
   simp(disch:=omega)only[go_sem,K.ax,↓reduceIte,loop,reduceAdd,reduceSub]
def agS(u:Edge→Bool)(E:List Edge)(L:List Lab)(p:Nat):Int:=match (List.range E.length).find? (fun j=>uC u L p (nth E j))with | some j=>(j:Int) | none=> -1
theorem uS:∀ {i j:Nat},i≠j→eqB i j=false
 | 0,0,h=>absurd rfl h
 | 0,_+1,_=>rfl
 | _+1,0,_=>rfl
 | i+1,j+1,h=>uS (i:=i) (j:=j) (by omega)
theorem TS(E:List Edge)(sf bd:List Bool)(ep n:Nat)(hs:sf.length=n)(hb:bd.length=n)(hn:n≤64)(hE:∀e∈E,e.ok n)(hl:E.length≤1000)(L:List Lab)(hL:C8 j5 n L)(p:Nat)(hp:p<n)
 (H:aq) (i:Nat) (h0:H[0]?=some (oK E ep)) (h1:H[1]?=some (kJ sf)) (h2:H[2]?=some (kJ bd)) (h3:H[3]?=some (.box (CY 0 E ep n))) (h6:H[6]?=some (.box [.t (.sl (L.map Lab.e))])) (hi:H[i]?=some (.box [I p])) (i6:7≤i):
 Kp H aH N.ax 0 [0] [.ref 0 ep E.length,.fn N.aE [.bp i 0,.bp 3 0,.bp 6 0]]=some (I (agS (uB sf bd) E L p),H):=by
 have ix:=MV E sf bd ep n hs hb hn hE hl L hL p hp
 have a0:eqB i 0=false:=uS (by omega)
 have b0:eqB 0 i=false:=uS (by omega)
 have a1:eqB i 1=false:=uS (by omega)
 have b1:eqB 1 i=false:=uS (by omega)
 have a2:eqB i 2=false:=uS (by omega)
 have b2:eqB 2 i=false:=uS (by omega)
 have a3:eqB i 3=false:=uS (by omega)
 have b3:eqB 3 i=false:=uS (by omega)
 have a6:eqB i 6=false:=uS (by omega)
 have b6:eqB 6 i=false:=uS (by omega)
 have sel:reach H 3 (eW [] (B3 8 [.ref 0 ep E.length,.fn N.aE [.bp i 0,.bp 3 0,.bp 6 0]]))=[0,i,3,6,1,2]:=by
  have s0:eW [] (B3 8 [.ref 0 ep E.length,.fn N.aE [.bp i 0,.bp 3 0,.bp 6 0]])=[0,i,3,6]:=by
   simp(disch:=omega)only[go_sem,a0,a1,a2,a3,a6,b0,b1,b2,b3,b6]
  have s1:eW [0,i,3,6] (lx H [0,i,3,6])=[0,i,3,6,1,2]:=by
   have:lx H [0,i,3,6]=[0,1,2]:=by
    simp only[lx,List.flatMap_cons,List.flatMap_nil,h0,h3,h6,hi]
    rw[show List.flatMap (ids depth) (oK E ep).ds=[]from B4 8 _]
    rfl
   rw[this]
   simp(disch:=omega)only[go_sem,a0,a1,a2,a3,a6,b0,b1,b2,b3,b6]
  have s2:eW [0,i,3,6,1,2] (lx H [0,i,3,6,1,2])=[0,i,3,6,1,2]:=by
   have:lx H [0,i,3,6,1,2]=[0,1,2]:=by
    simp only[lx,List.flatMap_cons,List.flatMap_nil,h0,h1,h2,h3,h6,hi]
    rw[show List.flatMap (ids depth) (oK E ep).ds=[]from B4 8 _,show List.flatMap (ids depth) (kJ sf).ds=[]from B4 8 _,show List.flatMap (ids depth) (kJ bd).ds=[]from B4 8 _]
    rfl
   rw[this]
   simp(disch:=omega)only[go_sem,a0,a1,a2,a3,a6,b0,b1,b2,b3,b6]
  simp only[s0,reach,s1,s2]
 have pk:pick H [0,i,3,6,1,2]=some [oK E ep,.box [I p],.box (CY 0 E ep n),.box [.t (.sl (L.map Lab.e))],kJ sf,kJ bd]:=by
  simp only[pick,h0,h1,h2,h3,h6,hi,aLq,aLw]
 have ar:qE H [0] 0 [.ref 0 ep E.length,.fn N.aE [.bp i 0,.bp 3 0,.bp 6 0]]=some [.ref 0 ep E.length,.fn N.aE [.bp i 0,.bp 3 0,.bp 6 0]]:=by
  simp(disch:=omega)only[go_sem]
 have fz:dg H [0] 0 [.ref 0 ep E.length,.fn N.aE [.bp i 0,.bp 3 0,.bp 6 0]]=[]:=by
  simp(disch:=omega)only[go_sem]
 have rn:cg (ren (idxOf [0,i,3,6,1,2]) 8) [.ref 0 ep E.length,.fn N.aE [.bp i 0,.bp 3 0,.bp 6 0]]=some [.ref 0 ep E.length,.fn N.aE [.bp 1 0,.bp 2 0,.bp 3 0]]:=by
  simp(disch:=omega)only[go_sem,a0,a1,a2,a3,a6,b0,b1,b2,b3,b6]
 rw[Kr,Ks,ar,aLq,Kt,sel,Ku,rn,aLq,fz,Kv]
 simp only[pins]
 rw[pk,aLq,Kw]
 simp(disch:=omega)only[go_sem,a0,a1,a2,a3,a6,b0,b1,b2,b3,b6,reduceAdd,ix]
 rw[pJ h0,pJ hi,pJ h3,pJ h6,pJ h1,pJ h2]
 rfl
abbrev C9(E:List Edge)(sf bd:List Bool)(ep n:Nat)(L:List Lab)(W M:List Int)(Tl:aq)(p:Nat):aq:=
 oK E ep::kJ sf::kJ bd:: .box (CY 0 E ep n)::pT W::pT []:: .box [.t (.sl (L.map Lab.e))]::pT M::(Tl++[.box [I p]])
abbrev Jt(p0:Nat)(W M:List Int)(Tl:aq):List D:=[.und,I p0,.bp 3 0,.ref 4 0 W.length,.und,.ref 7 0 M.length,.und,.bp 6 0,.bp (Tl.length+8) 0,.und,.und]
theorem MW(E:List Edge)(sf bd:List Bool)(ep n:Nat)(hs:sf.length=n)(hb:bd.length=n)(hn:n≤64)(hE:∀e∈E,e.ok n)(hl:E.length≤1000)(L:List Lab)(hL:C8 j5 n L)
 (p0 p:Nat) (hp:p<n) (W M:List Int) (hW:W.length≤1000000000) (hM:M.length≤1000000000) (Tl:aq) (hc:nth sf p=false) (j:Nat) (hj:j<E.length) (hx:agS (uB sf bd) E L p=(j:Int)):
 gp false [0,4,6,9,10] (C9 E sf bd ep n L W M Tl p).length (exS aH K.eV ⟨Jt p0 W M Tl,C9 E sf bd ep n L W M Tl p⟩)=some ⟨Jt p0 (W++[((nth E j).r:Int)]) (M++[((nth E j).b:Int)]) (Tl++[.box [I (nth E j).b]]),C9 E sf bd ep n L (W++[((nth E j).r:Int)]) (M++[((nth E j).b:Int)]) (Tl++[.box [I (nth E j).b]]) (nth E j).b⟩:=by
 have oi:=TS E sf bd ep n hs hb hn hE hl L hL p hp (C9 E sf bd ep n L W M Tl p) (Tl.length+8) rfl rfl rfl rfl rfl (by simp) (by omega)
 rw[hx]at oi
 have hG:∀x:Obj,(Tl++[x])[Tl.length]?=some x:=fun x=>by simp
 have hS:∀x y:Obj,(Tl++[x]).set Tl.length y=Tl++[y]:=fun x y=>by simp
 obtain⟨e1,e2,e3,e4⟩:=hE _ (ai hj)
 generalize hy:nth E j=y at*
 obtain⟨r,a,b,t⟩:=y
 simp only at*
 have hG2:∀x y:Obj,(Tl++[x]++[y])[Tl.length+1]?=some y:=fun x y=>by simp
 have hS2:∀x y z:Obj,(Tl++[x]++[y]).set (Tl.length+1) z=Tl++[x]++[z]:=fun x y z=>by simp
 simp(disch:=omega)only[go_sem,K.eV,↓reduceIte,reduceAdd,reduceSub,hG,hS,hG2,hS2,hc,oi,hy,Bool.not_false]
 simp only[List.map_append,List.map_cons,List.map_nil,aLv,List.length_cons,List.length_nil,Nat.add_assoc,reduceAdd,Int.natCast_add]
 simp only[Jt,C9,pT,List.map_append,List.map_cons,List.map_nil,aLv,List.length_cons,List.length_nil,Nat.add_assoc,reduceAdd]
theorem MX(l:List Edge):(List.range l.length).map (nth l)=l:=by
 refine List.ext_getElem? fun i=>?_
 rw[aLn]
 by_cases hi:i<l.length
 · rw[aLp hi,c7 hi];rfl
 · rw[aLm (by simpa using hi),aLm (by omega)];rfl
theorem Qz{u:Edge→Bool}{E:List Edge}{L:List Lab}{p:Nat}{e:Edge}(h:Hm u E L p=some e):∃j:Nat,agS u E L p=(j:Int)∧j<E.length∧nth E j=e:=by
 unfold Hm at h
 rw[← MX E,List.find?_map]at h
 unfold agS
 cases hf:(List.range E.length).find? (fun j=>uC u L p (nth E j))with
 | none=>
   have:(List.range E.length).find? (uC u L p ∘ nth E)=none:=hf
   rw[this]at h
   cases h
 | some j=>
   have:(List.range E.length).find? (uC u L p ∘ nth E)=some j:=hf
   rw[this]at h
   simp only[aLw,Option.some.injEq]at h
   exact⟨j,rfl,aLu.1 (List.mem_of_find?_eq_some hf),h⟩
abbrev qB(sf:List Bool)(p:Nat):Bool:=nth sf p
theorem QA(E:List Edge)(sf bd:List Bool)(ep n:Nat)(hs:sf.length=n)(hb:bd.length=n)(hn:n≤64)(hE:∀e∈E,e.ok n)(hl:E.length≤1000)(L:List Lab)(hZ:K9 j5 n E (uB sf bd) (qB sf) L)
 (p0:Nat):∀(k p:Nat) (W M:List Int) (Tl:aq),p<n→(nth L p).t<j5→(nth L p).r.toNat≤k→W.length+k≤1000000000→M.length+k≤1000000000→
 ∃(Tl':aq) (q:Nat),nj false [0,4,6,9,10] (exS aH K.eV) ⟨Jt p0 W M Tl,C9 E sf bd ep n L W M Tl p⟩=
  some (.exit 0,⟨Jt p0 (W++(lW (qB sf) (uB sf bd) E L k p).map (fun e=>(e.r:Int))) (M++(lW (qB sf) (uB sf bd) E L k p).map (fun e=>(e.b:Int))) Tl',
   C9 E sf bd ep n L (W++(lW (qB sf) (uB sf bd) E L k p).map (fun e=>(e.r:Int))) (M++(lW (qB sf) (uB sf bd) E L k p).map (fun e=>(e.b:Int))) Tl' q⟩):=by
 have done:∀(p:Nat) (W M:List Int) (Tl:aq),p<n→nth sf p=true→nj false [0,4,6,9,10] (exS aH K.eV) ⟨Jt p0 W M Tl,C9 E sf bd ep n L W M Tl p⟩=some (.exit 0,⟨Jt p0 W M Tl,C9 E sf bd ep n L W M Tl p⟩):=by
  intro p W M Tl hp hz
  refine dW ?_ (by simp)
  have hG:∀x:Obj,(Tl++[x])[Tl.length]?=some x:=fun x=>by simp
  have hS:∀x y:Obj,(Tl++[x]).set Tl.length y=Tl++[y]:=fun x y=>by simp
  simp(disch:=omega)only[go_sem,K.eV,↓reduceIte,reduceAdd,reduceSub,hG,hS,hz,Bool.not_true]
 intro k
 induction k with
 | zero=>
   intro p W M Tl hp hf hk hW hM
   have hz:nth sf p=true:=by
    by_cases hz:nth sf p=true
    · exact hz
    · obtain⟨e,_,e1,_,_,_,_,e5⟩:=oJ hZ hE hp hf (by simpa using hz)
      have:=hZ.r0 e.b (hE e e1).2.1
      have:=hZ.r0 p hp
      omega
   refine⟨Tl,p,?_⟩
   simp only[lW,List.map_nil,List.append_nil]
   exact done p W M Tl hp hz
 | succ k ih=>
   intro p W M Tl hp hf hk hW hM
   by_cases hz:nth sf p=true
   · refine⟨Tl,p,?_⟩
     have:lW (qB sf) (uB sf bd) E L (k+1) p=[]:=by unfold lW;rw[if_pos hz]
     rw[this]
     simp only[List.map_nil,List.append_nil]
     exact done p W M Tl hp hz
   · obtain⟨e,e0,e1,e2,e3,e4,e5,e6⟩:=oJ hZ hE hp hf (by simpa using hz)
     have br:=hZ.r0 e.b (hE e e1).2.1
     obtain⟨j,j0,j1,j2⟩:=Qz e0
     have rd:=MW E sf bd ep n hs hb hn hE hl L hZ.toC8 p0 p hp W M (by omega) (by omega) Tl (by simpa using hz) j j1 j0
     rw[j2]at rd
     obtain⟨Tl',q,h⟩:=ih e.b (W++[(e.r:Int)]) (M++[(e.b:Int)]) (Tl++[.box [I e.b]]) (hE e e1).2.1 e4 (by omega) (by simp;omega) (by simp;omega)
     refine⟨Tl',q,?_⟩
     have:lW (qB sf) (uB sf bd) E L (k+1) p=e::lW (qB sf) (uB sf bd) E L k e.b:=by
      conv=>lhs;unfold lW
      rw[if_neg hz,e0]
     simpa only[this,List.map_cons,List.append_assoc,List.cons_append,List.nil_append]using fC rd h
theorem Zt{F:Int}(hF:0≤F)(E:List Edge)(u:Edge→Bool)(sf:List Bool)(n:Nat):VK F n E u (qB sf) (qA F sf n n):=by
 refine⟨Js F hF sf n n,?_,?_⟩
 · intro p hp hz
   rw[nC F sf n n hp]
   have:nth sf p=true:=hz
   rw[this,Bool.not_true,Bool.and_false]
   rfl
 · intro p hp hf
   left
   rw[nC F sf n n hp]at hf
   show nth sf p=true
   cases hz:nth sf p with
   | true=>rfl
   | false=>
     rw[hz,decide_eq_true hp]at hf
     simp at hf
theorem zI{E:List Edge}{sf bd:List Bool}{n:Nat}(hE:∀e∈E,e.ok n):K9 j5 n E (uB sf bd) (qB sf) (iH E sf bd n):=by
 refine Lb hE ?_ (Zt (by decide) E _ sf n)
 intro e _ hu
 unfold uB at hu
 simp only[aLr,Bool.not_eq_true']at hu
 exact hu.1
def Zu(E:List Edge)(sf bd:List Bool)(n p:Nat):List Edge:=lW (qB sf) (uB sf bd) E (iH E sf bd n) (nth (iH E sf bd n) p).r.toNat p
def TT(E:List Edge)(sf bd:List Bool)(n p:Nat):D:=
 if(nth (iH E sf bd n) p).t<j5 then .tup [.t (tL ((Zu E sf bd n p).map fun e=>(e.r:Int))),I (nth (iH E sf bd n) p).t,.t (tL ((p:Int)::(Zu E sf bd n p).map fun e=>(e.b:Int))),B true]
 else .tup [.t (tL []),I 0,.t (tL []),B false]
theorem sO{E:List Edge}{sf bd:List Bool}{n:Nat}(hE:∀e∈E,e.ok n)(hn:n≤64){p:Nat}(hp:p<n)(hf:(nth (iH E sf bd n) p).t<j5):0≤(nth (iH E sf bd n) p).t∧(nth (iH E sf bd n) p).t≤64000000∧0≤(nth (iH E sf bd n) p).r∧(nth (iH E sf bd n) p).r≤64000000:=by
 have h:=zI (sf:=sf) (bd:=bd) hE
 have h1:=h.time hE hp hf
 have h2:=h.t0 p hp
 have h3:=h.r0 p hp
 have h4:=h.r1 p hp
 omega
theorem ig{l:Nat}{L:C}{S:St}{p:Ex×St}{K:St→Option (Ex×St)}{E:Ex×St→Option (D×aq)}{R:Option (D×aq)}(h:exS aH L S=some p)(h2:(andThen (Ew l (some p)) K).bind E=R):(andThen (Ew l (exS aH L S)) K).bind E=R:=by
 rw[h];exact h2
theorem QB(E:List Edge)(sf bd:List Bool)(ep n:Nat)(hs:sf.length=n)(hb:bd.length=n)(hn:n≤64)(hE:∀e∈E,e.ok n)(hl:E.length≤1000)(p:Nat)(hp:p<n):
 aH 0 N.bW [.agg (CY 0 E ep n),I p] [oK E ep,kJ sf,kJ bd]=some (TT E sf bd n p,[oK E ep,kJ sf,kJ bd]):=by
 refine av K.mK rfl ?_
 have co:=TR E sf bd ep n hs hb hn hE hl
 have cz:=zI (sf:=sf) (bd:=bd) hE
 have cl:=sO (sf:=sf) (bd:=bd) hE hn hp
 have ln:=cz.l
 unfold TT Zu
 generalize iH E sf bd n=L at*
 have e1:(L.map Lab.e)[p]?=some (nth L p).e:=bR _ (by omega)
 by_cases hf:(nth L p).t<j5
 · obtain⟨c1,c2,c3,c4⟩:=cl hf
   obtain⟨Tl,q,lp⟩:=QA E sf bd ep n hs hb hn hE hl L cz p (nth L p).r.toNat p [] [(p:Int)] [] hp hf (aLs _) (by simp;omega) (by simp;omega)
   have lp2:∀z0 z4 z6 z9 z10,exS aH K.pt ⟨[z0,I p,.bp 3 0,.ref 4 0 0,z4,.ref 7 0 1,z6,.bp 6 0,.bp 8 0,z9,z10],C9 E sf bd ep n L [] [(p:Int)] [] p⟩=_:=fun z0 z4 z6 z9 z10=>ue lp
   rw[if_pos hf]
   generalize (lW (qB sf) (uB sf bd) E L (nth L p).r.toNat p)=P at*
   generalize nth L p=x at*
   obtain⟨xt,xr⟩:=x
   simp only at*
   have hf:xt<1152921504606846976:=hf
   simp(disch:=omega)only[go_sem,K.bW,↓reduceIte,co,e1,hf,reduceAdd,reduceSub]
   refine ig (lp2 _ _ _ _ _) ?_
   simp(disch:=omega)only[go_sem,K.bW,↓reduceIte,e1,List.nil_append,List.singleton_append,reduceAdd,reduceSub]
   rfl
 · rw[if_neg hf]
   have:=cz.t1 p hp
   generalize nth L p=x at*
   obtain⟨xt,xr⟩:=x
   simp only at*
   have hf:¬xt<1152921504606846976:=hf
   simp(disch:=omega)only[go_sem,K.bW,↓reduceIte,co,e1,hf,reduceAdd,reduceSub]
   simp only[tL,List.map_nil]
def wD(l:List Bool)(xs:List Int):Nat→List Bool
 | 0=>l
 | j+1=>(wD l xs j).set (nth xs j).toNat true
theorem ku(l:List Bool)(xs:List Int):∀j,(wD l xs j).length=l.length
 | 0=>rfl
 | j+1=>by simp only[wD,List.length_set];exact ku l xs j
theorem Ju{L:List Bool}{i j:Nat}{a:Bool}(h:j≠i):nth (L.set j a) i=nth L i:=by
 unfold nth
 simp only[aLl,aLi h]
theorem Bh(l:List Bool)(xs:List Int)(p:Nat)(hp:p<l.length)(h0:∀x∈xs,0≤x):∀j,j≤xs.length→nth (wD l xs j) p=(nth l p||decide ((p:Int)∈xs.take j))
 | 0,_=>by simp[wD]
 | j+1,hj=>by
   have ih:=Bh l xs p hp h0 j (by omega)
   have hx:0≤nth xs j:=h0 _ (ai (by omega))
   have tk:xs.take (j+1)=xs.take j++[nth xs j]:=by
    rw[List.take_succ,c7 (by omega)];rfl
   simp only[wD]
   by_cases c:(nth xs j).toNat=p
   · have:nth ((wD l xs j).set (nth xs j).toNat true) p=true:=by
      rw[c];exact bD (aLj (by rw[ku];exact hp))
     have m:(p:Int)∈xs.take (j+1):=by
      rw[tk,List.mem_append,List.mem_singleton];right;omega
     rw[this,decide_eq_true m,Bool.or_true]
   · rw[Ju c,ih]
     have:((p:Int)∈xs.take (j+1))=((p:Int)∈xs.take j):=by
      rw[tk,List.mem_append,List.mem_singleton]
      exact propext ⟨fun h=>h.elim id (fun h=>absurd (by omega) c),.inl⟩
     simp only[this]
def CD(m:aC):List Bool:=m.aa.map Place.surf
def sfL(m:aC)(e:Esc):List Bool:=wD (CD m) e.safe e.safe.length
def bdL(m:aC)(e:Esc):List Bool:=wD (List.replicate m.aa.length false) e.bad e.bad.length
theorem Jv(m:aC)(e:Esc):(sfL m e).length=m.aa.length:=by unfold sfL;rw[ku];simp[CD]
theorem zJ(m:aC)(e:Esc):(bdL m e).length=m.aa.length:=by unfold bdL;rw[ku];simp
theorem px{m:aC}{e:Esc}(he:e.ok m){p:Nat}(hp:p<m.aa.length):nth (sfL m e) p=sfF m e p:=by
 unfold sfL sfF
 rw[Bh _ _ p (by simpa [CD]using hp) (fun x hx=>(pW he.s x hx).1) _ (aLs _),List.take_length]
 congr 1
 unfold CD
 exact bD (by rw[aLn,c7 hp];rfl)
theorem xx{m:aC}{e:Esc}(he:e.ok m){p:Nat}(hp:p<m.aa.length):nth (bdL m e) p=bdF e p:=by
 unfold bdL bdF
 rw[Bh _ _ p (by simpa using hp) (fun x hx=>(pW he.b x hx).1) _ (aLs _),List.take_length]
 have:nth (List.replicate m.aa.length false) p=false:=bD (by rw[List.getElem?_replicate,if_pos hp])
 rw[this,Bool.false_or]
def zK(m:aC)(e:Esc)(k:Nat):List Edge:=
 if(k:Int)∈e.shut then []else
  (if 0≤kt m k false then [⟨k,(nth m.roads k).frm.toNat,(nth m.roads k).to.toNat,kt m k false⟩]else [])++
  (if 0≤kt m k true then [⟨k,(nth m.roads k).to.toNat,(nth m.roads k).frm.toNat,kt m k true⟩]else [])
def mL(m:aC)(e:Esc):Nat→List Edge
 | 0=>[]
 | j+1=>mL m e j++zK m e j
theorem QC(m:aC)(e:Esc)(k:Nat):(zK m e k).length≤2:=by
 unfold zK
 split
 · simp
 · rw[aLv]
   split<;>split<;>simp
theorem vB(m:aC)(e:Esc):∀j,(mL m e j).length≤2*j
 | 0=>aLs _
 | j+1=>by
   have:=vB m e j
   have:=QC m e j
   simp only[mL,aLv]
   omega
theorem TU{m:aC}(hm:m.ok)(e:Esc){k:Nat}(hk:k<m.roads.length):∀x∈zK m e k,x.ok m.aa.length:=by
 obtain⟨f0,f1,t0,t1, -,l0,l1, -, -, -, -, -, -, -, -⟩:=hm.rs _ (ai hk)
 have s1:=lu hm k hk false
 have s2:=lu hm k hk true
 intro x hx
 unfold zK at hx
 split at hx
 · cases hx
 · rw[List.mem_append]at hx
   rcases hx with hx | hx
   · split at hx
     · rw[List.mem_singleton]at hx
       subst hx
       exact⟨by simp only;omega,by simp only;omega,by simp only;omega,by simp only;omega⟩
     · cases hx
   · split at hx
     · rw[List.mem_singleton]at hx
       subst hx
       exact⟨by simp only;omega,by simp only;omega,by simp only;omega,by simp only;omega⟩
     · cases hx
theorem Hr{m:aC}(hm:m.ok)(e:Esc):∀j,j≤m.roads.length→∀x∈mL m e j,x.ok m.aa.length
 | 0,_=>by simp[mL]
 | j+1,hj=>by
   intro x hx
   rw[mL,List.mem_append]at hx
   rcases hx with hx | hx
   · exact Hr hm e j (by omega) x hx
   · exact TU hm e (by omega) x hx
def dH(m:aC)(e:Esc):List Edge:=mL m e m.roads.length
def yK(m:aC)(j:Nat):List Bool:=(List.range m.aa.length).map fun p=>decide (p<j)&&(nth m.aa p).surf
theorem CE(m:aC)(j:Nat):(yK m j).length=m.aa.length:=by simp[yK]
theorem MY(m:aC){j:Nat}(hj:j<m.aa.length):(yK m j).set j (nth m.aa j).surf=yK m (j+1):=by
 refine List.ext_getElem? fun i=>?_
 by_cases hi:i=j
 · subst hi
   rw[aLj (by rw[CE];exact hj)]
   unfold yK
   rw[aLn,aLp hj]
   simp
 · rw[aLi (by omega)]
   unfold yK
   rw[aLn,aLn]
   by_cases hn:i<m.aa.length
   · rw[aLp hn]
     have:(decide (i<j+1))=decide (i<j):=decide_eq_decide.2 (by omega)
     simp only[aLw,this]
   · rw[aLm (by simpa using hn)];rfl
theorem QD(m:aC):yK m m.aa.length=CD m:=by
 refine List.ext_getElem? fun i=>?_
 unfold yK CD
 rw[aLn,aLn]
 by_cases hn:i<m.aa.length
 · rw[aLp hn,c7 hn];simp[hn]
 · rw[aLm (by simpa using hn),aLm (by omega)];rfl
theorem MZ(m:aC):yK m 0=List.replicate m.aa.length false:=by
 refine List.ext_getElem? fun i=>?_
 unfold yK
 rw[aLn,List.getElem?_replicate]
 by_cases hn:i<m.aa.length
 · rw[aLp hn];simp[hn]
 · rw[aLm (by simpa using hn)];simp[hn]
abbrev gV(e:Esc):List D:=[.t (tL e.safe),.t (tL e.bad),.t (tL e.shut),.t (tI e.b9)]
abbrev vL(m:aC)(e:Esc)(S:List Edge)(sf bd:List Bool):aq:=[.box (ae m),.box (gV e),.box [I 0,.nil,.nil,.nil],.box [I m.aa.length,.ref 7 0 S.length,.ref 5 0 m.aa.length,.ref 6 0 m.aa.length],.arr 4 false 0 [],kJ sf,kJ bd,oK S 0]
theorem Zv{m:aC}(hm:m.ok)(e:Esc)(bd:List Bool)(hb:bd.length=m.aa.length)(z0 z1 z6 z7 z8 z9 z10 z11 z12 z13 z17 z18 z19 z20 z21 z22 z23 z24 z25:D):
 exS aH K.Az ⟨[z0,z1,.bp 0 0,.bp 1 0,.bp 2 0,.bp 3 0,z6,z7,z8,z9,z10,z11,z12,z13,.t (.sl (m.aa.map Place.e)),I m.aa.length,I 0,z17,z18,z19,z20,z21,z22,z23,z24,z25],vL m e [] (yK m 0) bd⟩=some (.exit 0,⟨[.und,.und,.bp 0 0,.bp 1 0,.bp 2 0,.bp 3 0,.und,.und,.und,.und,.und,.und,.und,.und,.t (.sl (m.aa.map Place.e)),I m.aa.length,I m.aa.length,.und,.und,.und,.und,.und,.und,.und,.und,.und],vL m e [] (CD m) bd⟩):=by
 have np:=hm.np
 rw[← QD]
 refine bz (fun j=>⟨[.und,.und,.bp 0 0,.bp 1 0,.bp 2 0,.bp 3 0,.und,.und,.und,.und,.und,.und,.und,.und,.t (.sl (m.aa.map Place.e)),I m.aa.length,I j,.und,.und,.und,.und,.und,.und,.und,.und,.und],vL m e [] (yK m j) bd⟩) m.aa.length (by simp only[go_sem]) ?_ ?_ (by simp)
 · intro j hj
   have ln:=CE m j
   have ex:(m.aa.map Place.e)[j]?=some (nth m.aa j).e:=bR _ hj
   rw[← MY m hj]
   generalize yK m j=L at*
   generalize nth m.aa j=x at*
   obtain⟨h,su⟩:=x
   obtain⟨aa,roads⟩:=m
   simp only[ae]at*
   simp(disch:=omega)only[go_sem,K.sF,↓reduceIte,ex,A9,reduceAdd,reduceSub]
   rfl
 · have ln:=CE m m.aa.length
   generalize yK m m.aa.length=L at*
   obtain⟨aa,roads⟩:=m
   simp only[ae]at*
   simp(disch:=omega)only[go_sem,K.sF,↓reduceIte,reduceAdd,reduceSub]
theorem Zw{m:aC}(hm:m.ok){e:Esc}(he:e.ok m)(sf bd:List Bool)(hs:sf.length=m.aa.length)(hb:bd.length=m.aa.length)(z0 z1 z6 z7 z8 z9 z10 z11 z12 z13 z14 z15 z16 z20 z21 z22 z23 z24 z25:D):
 exS aH K.AA ⟨[z0,z1,.bp 0 0,.bp 1 0,.bp 2 0,.bp 3 0,z6,z7,z8,z9,z10,z11,z12,z13,z14,z15,z16,.t (tL e.safe),I e.safe.length,I 0,z20,z21,z22,z23,z24,z25],vL m e [] sf bd⟩=some (.exit 2,⟨[.und,.und,.bp 0 0,.bp 1 0,.bp 2 0,.bp 3 0,.und,.und,.und,.und,.und,.und,.und,.und,.und,.und,.und,.t (tL e.safe),I e.safe.length,I e.safe.length,.und,.und,.und,.und,.und,.und],vL m e [] (wD sf e.safe e.safe.length) bd⟩):=by
 have np:=hm.np
 have sl:=he.sl hm
 refine bz (fun j=>⟨[.und,.und,.bp 0 0,.bp 1 0,.bp 2 0,.bp 3 0,.und,.und,.und,.und,.und,.und,.und,.und,.und,.und,.und,.t (tL e.safe),I e.safe.length,I j,.und,.und,.und,.und,.und,.und],vL m e [] (wD sf e.safe j) bd⟩) e.safe.length (by simp only[go_sem,wD]) ?_ ?_ (by simp)
 · intro j hj
   have ln:=ku sf e.safe j
   have hx:=pW he.s _ (ai hj)
   simp only[wD]
   generalize wD sf e.safe j=L at*
   obtain⟨aa,roads⟩:=m
   obtain⟨safe,bad,shut,b9⟩:=e
   simp only[ae,gV]at*
   simp(disch:=omega)only[go_sem,K.sG,↓reduceIte,A9,reduceAdd,reduceSub]
   rfl
 · have ln:=ku sf e.safe e.safe.length
   generalize wD sf e.safe e.safe.length=L at*
   obtain⟨aa,roads⟩:=m
   obtain⟨safe,bad,shut,b9⟩:=e
   simp only[ae,gV]at*
   simp(disch:=omega)only[go_sem,K.sG,↓reduceIte,reduceAdd,reduceSub]
theorem Zx{m:aC}(hm:m.ok){e:Esc}(he:e.ok m)(sf bd:List Bool)(hs:sf.length=m.aa.length)(hb:bd.length=m.aa.length)(z0 z1 z6 z7 z8 z9 z10 z11 z12 z13 z14 z15 z16 z17 z18 z19 z23 z24 z25:D):
 exS aH K.AB ⟨[z0,z1,.bp 0 0,.bp 1 0,.bp 2 0,.bp 3 0,z6,z7,z8,z9,z10,z11,z12,z13,z14,z15,z16,z17,z18,z19,.t (tL e.bad),I e.bad.length,I 0,z23,z24,z25],vL m e [] sf bd⟩=some (.exit 4,⟨[.und,.und,.bp 0 0,.bp 1 0,.bp 2 0,.bp 3 0,.und,.und,.und,.und,.und,.und,.und,.und,.und,.und,.und,.und,.und,.und,.t (tL e.bad),I e.bad.length,I e.bad.length,.und,.und,.und],vL m e [] sf (wD bd e.bad e.bad.length)⟩):=by
 have np:=hm.np
 have sl:=he.bl hm
 refine bz (fun j=>⟨[.und,.und,.bp 0 0,.bp 1 0,.bp 2 0,.bp 3 0,.und,.und,.und,.und,.und,.und,.und,.und,.und,.und,.und,.und,.und,.und,.t (tL e.bad),I e.bad.length,I j,.und,.und,.und],vL m e [] sf (wD bd e.bad j)⟩) e.bad.length (by simp only[go_sem,wD]) ?_ ?_ (by simp)
 · intro j hj
   have ln:=ku bd e.bad j
   have hx:=pW he.b _ (ai hj)
   simp only[wD]
   generalize wD bd e.bad j=L at*
   obtain⟨aa,roads⟩:=m
   obtain⟨safe,bad,shut,b9⟩:=e
   simp only[ae,gV]at*
   simp(disch:=omega)only[go_sem,K.sH,↓reduceIte,A9,reduceAdd,reduceSub]
   rfl
 · have ln:=ku bd e.bad e.bad.length
   generalize wD bd e.bad e.bad.length=L at*
   obtain⟨aa,roads⟩:=m
   obtain⟨safe,bad,shut,b9⟩:=e
   simp only[ae,gV]at*
   simp(disch:=omega)only[go_sem,K.sH,↓reduceIte,reduceAdd,reduceSub]
theorem Zy{m:aC}(hm:m.ok){e:Esc}(he:e.ok m)(sf bd:List Bool)(z0 z1 z6 z7 z8 z9 z10 z11 z12 z13 z14 z15 z16 z17 z18 z19 z20 z21 z22:D):
 exS aH K.AD ⟨[z0,z1,.bp 0 0,.bp 1 0,.bp 2 0,.bp 3 0,z6,z7,z8,z9,z10,z11,z12,z13,z14,z15,z16,z17,z18,z19,z20,z21,z22,.t (.sl (m.roads.map Road.e)),I m.roads.length,I 0],vL m e [] sf bd⟩=some (.exit 6,⟨[.und,.und,.bp 0 0,.bp 1 0,.bp 2 0,.bp 3 0,.und,.und,.und,.und,.und,.und,.und,.und,.und,.und,.und,.und,.und,.und,.und,.und,.und,.t (.sl (m.roads.map Road.e)),I m.roads.length,I m.roads.length],vL m e (dH m e) sf bd⟩):=by
 have np:=hm.np
 have nr:=hm.nr
 have sl:=he.hl hm
 refine bz (fun j=>⟨[.und,.und,.bp 0 0,.bp 1 0,.bp 2 0,.bp 3 0,.und,.und,.und,.und,.und,.und,.und,.und,.und,.und,.und,.und,.und,.und,.und,.und,.und,.t (.sl (m.roads.map Road.e)),I m.roads.length,I j],vL m e (mL m e j) sf bd⟩) m.roads.length (by simp only[go_sem,mL]) ?_ ?_ (by simp)
 · intro j hj
   have ln:=vB m e j
   have cn:=oX e.shut j (by omega)
   have w1:=sM hm j hj false
   have w2:=sM hm j hj true
   have b1:=lu hm j hj false
   have b2:=lu hm j hj true
   obtain⟨f0,f1,t0,t1, -, -, -, -, -, -, -, -, -, -, -⟩:=hm.rs _ (ai hj)
   simp only[mL]
   unfold zK
   have ex:(m.roads.map Road.e)[j]?=some (nth m.roads j).e:=bR _ hj
   generalize kt m j false=u at*
   generalize kt m j true=v at*
   generalize nth m.roads j=x at*
   obtain⟨frm,to,len,ar,walk,closed,rl,rh,ll,lh⟩:=x
   simp only at f0 f1 t0 t1 ⊢
   obtain⟨p,rfl⟩:=Int.eq_ofNat_of_zero_le f0
   obtain⟨q,rfl⟩:=Int.eq_ofNat_of_zero_le t0
   simp only[Int.toNat_natCast]
   generalize mL m e j=S at*
   obtain⟨aa,roads⟩:=m
   obtain⟨safe,bad,shut,b9⟩:=e
   simp only[ae,gV]at*
   by_cases c:(j:Int)∈shut
   · rw[if_pos c]
     simp(disch:=omega)only[go_sem,K.jy,↓reduceIte,ex,cn,c,decide_true,List.append_nil,reduceAdd,reduceSub]
   · rw[if_neg c]
     by_cases c1:0≤u<;>by_cases c2:0≤v
     · simp(disch:=omega)only[go_sem,K.jy,↓reduceIte,ex,cn,c,w1,w2,c1,c2,decide_false,reduceAdd,reduceSub]
       simp only[vL,oK,ae,gV,List.map_append,List.map_cons,List.map_nil,aLv,List.length_cons,List.length_nil,Nat.add_assoc,reduceAdd,Nat.zero_add,List.append_assoc,List.cons_append,List.nil_append]
     · simp(disch:=omega)only[go_sem,K.jy,↓reduceIte,ex,cn,c,w1,w2,c1,c2,decide_false,List.append_nil,reduceAdd,reduceSub]
       simp only[vL,oK,ae,gV,List.map_append,List.map_cons,List.map_nil,aLv,List.length_cons,List.length_nil,Nat.add_assoc,reduceAdd,Nat.zero_add,List.append_assoc,List.cons_append,List.nil_append]
     · simp(disch:=omega)only[go_sem,K.jy,↓reduceIte,ex,cn,c,w1,w2,c1,c2,decide_false,List.nil_append,reduceAdd,reduceSub]
       simp only[vL,oK,ae,gV,List.map_append,List.map_cons,List.map_nil,aLv,List.length_cons,List.length_nil,Nat.add_assoc,reduceAdd,Nat.zero_add,List.append_assoc,List.cons_append,List.nil_append]
     · simp(disch:=omega)only[go_sem,K.jy,↓reduceIte,ex,cn,c,w1,w2,c1,c2,decide_false,List.append_nil,reduceAdd,reduceSub]
 · unfold dH
   generalize mL m e m.roads.length=S at*
   obtain⟨aa,roads⟩:=m
   obtain⟨safe,bad,shut,b9⟩:=e
   simp only[ae,gV]at*
   simp(disch:=omega)only[go_sem,K.jy,↓reduceIte,reduceAdd,reduceSub]
theorem Zz{m:aC}(hm:m.ok){e:Esc}(he:e.ok m)(h1:1≤m.aa.length):
 aH 1 N.iF [.t m.e,.t e.e] []=some (.agg (CY 0 (dH m e) 0 m.aa.length),[oK (dH m e) 0,kJ (sfL m e),kJ (bdL m e)]):=by
 refine av K.xu rfl ?_
 have np:=hm.np
 have nr:=hm.nr
 have l1:=Zv hm e (List.replicate m.aa.length false) (by simp)
 have l2:=Zw hm he (CD m) (List.replicate m.aa.length false) (by simp[CD]) (by simp)
 have l3:=Zx hm he (sfL m e) (List.replicate m.aa.length false) (Jv m e) (by simp)
 have l4:=Zy hm he (sfL m e) (bdL m e)
 have ls:(dH m e).length≤256:=by have:=vB m e m.roads.length;unfold dH;omega
 have e2:wD (CD m) e.safe e.safe.length=sfL m e:=rfl
 have e3:wD (List.replicate m.aa.length false) e.bad e.bad.length=bdL m e:=rfl
 rw[e2]at l2
 rw[e3]at l3
 have s1:=Jv m e
 have s2:=zJ m e
 rw[MZ]at l1
 generalize dH m e=W at*
 generalize sfL m e=sf at*
 generalize bdL m e=bd at*
 generalize CD m=sl at*
 obtain⟨aa,roads⟩:=m
 obtain⟨safe,bad,shut,b9⟩:=e
 simp only[ae,gV,vL]at*
 have rp:List.replicate aa.length (D.t (T.bool false))=List.map D.t (List.map T.bool (List.replicate aa.length false)):=by simp only[List.map_replicate]
 simp(disch:=omega)only[go_sem,K.iF,↓reduceIte,reduceAdd,reduceSub]
 rw[rp]
 refine ig (l1 _ _ _ _ _ _ _ _ _ _ _ _ _ _ _ _ _ _ _) ?_
 simp(disch:=omega)only[go_sem,K.iF,↓reduceIte,reduceAdd,reduceSub]
 refine ig (l2 _ _ _ _ _ _ _ _ _ _ _ _ _ _ _ _ _ _ _) ?_
 simp(disch:=omega)only[go_sem,K.iF,↓reduceIte,reduceAdd,reduceSub]
 refine ig (l3 _ _ _ _ _ _ _ _ _ _ _ _ _ _ _ _ _ _ _) ?_
 simp(disch:=omega)only[go_sem,K.iF,↓reduceIte,reduceAdd,reduceSub]
 refine ig (l4 _ _ _ _ _ _ _ _ _ _ _ _ _ _ _ _ _ _ _) ?_
 simp(disch:=omega)only[go_sem,K.iF,↓reduceIte,reduceAdd,reduceSub]
end Go.Ev
namespace Go.Ev
open Go
section
variable [Lib]
def ZA(H:aq)(zero:T)(sz:Nat)(x:D):Option (D×aq):=FP H x zero sz
@[go_sem] theorem akb (call : aV) (get : X → Option D) (H : aq) (x : X) (zero : T) (sz : Nat) : evO call get H (.clr x zero sz) = (get x).bind (ZA H zero sz) := (rfl)
@[go_sem] theorem ajc (H : aq) (zero : T) (sz ep n lo hi : Nat) (es : List D) (h1 : n = es.length) (h2 : lo ≤ hi) (h3 : hi ≤ n) : ZA (.arr sz false ep es :: H) zero sz (.sub 0 ep n lo hi) =
 some (.tup [],.arr sz false ep (es.take lo++List.replicate (hi-lo) (.t zero)++es.drop hi)::H):=by
 have a:iQ (.arr sz false ep es::H) 0 ep n=some (sz,false,es):=by
  show(if ep=ep∧n=es.length then some (sz,false,es)else none)=_
  rw[if_pos ⟨rfl,h1⟩]
 simp only[ZA,FP,a,aLq,ZV]
 by_cases h:hi-lo=0
 · rw[if_pos h,h]
   have:hi=lo:=by omega
   subst this
   simp
 · rw[if_neg h,if_pos (by simp)]
   have:lo+(hi-lo)=hi:=by omega
   rw[this]
   rfl
def ZB(H:aq)(x hi:Option D):Option (D×aq):=x.bind fun a=>(hi.bind intOf).bind fun h=>ab9 H a h
@[go_sem] theorem akc (call : aV) (get : X → Option D) (H : aq) (x hi : X) : evO call get H (.pop x hi) = ZB H (get x) (get hi) := (rfl)
@[go_sem] theorem ajd (H : aq) (k : IntKind) (sz ep n : Nat) (i : Int) (es : List D) (h1 : n = es.length) (h2 : 0 ≤ i) (h3 : i ≤ n) : ZB (.arr sz false ep es :: H) (some (.ref 0 ep n)) (some (.t (.int k i))) =
 some (.ref 0 (ep+1) i.toNat,.arr sz false (ep+1) (es.take i.toNat)::H):=by
 have a:iQ (.arr sz false ep es::H) 0 ep n=some (sz,false,es):=by
  show(if ep=ep∧n=es.length then some (sz,false,es)else none)=_
  rw[if_pos ⟨rfl,h1⟩]
 have b:intOf (.t (.int k i))=some i:=rfl
 have c:idx i=some i.toNat:=by unfold idx;rw[if_pos h2]
 simp only[ZB,aLq,b,ab9,a,c]
 rw[if_pos ⟨by omega,trivial⟩]
 rfl
end
variable [Lib] [bX] [bJ] [fR] [fS] [iK] [fy] [fo] [gU] [fM] [cV] [cI] [fB] [eu] [jb] [iE] [gl] [eQ] [jj]
theorem Jw(l:List Int)(hl:l.length≤100000000)(e:Edge):aH 0 N.dC [.t e.e,.bp 0 0] [.box [.t (tL l)]]=some (B (decide ((e.r:Int)∈l)),[.box [.t (tL l)]]):=by
 refine av K.uP rfl ?_
 have cn:=oX l e.r (by omega)
 obtain⟨r,a,b,t⟩:=e
 simp only at*
 simp(disch:=omega)only[go_sem,K.dC,↓reduceIte,cn,reduceAdd,reduceSub]
theorem QE(l:List Int)(hll:l.length≤100000000)(E:List Edge)(hl:E.length≤1000):
 aH 0 N.ax [.ref 0 0 E.length,.fn N.dC [.bp 1 0]] [oK E 0,.box [.t (tL l)]]=
  some (I (match (List.range E.length).find? (fun j=>decide (((nth E j).r:Int)∈l))with | some j=>(j:Int) | none=> -1),[oK E 0,.box [.t (tL l)]]):=by
 refine av K.cu rfl ?_
 have loop:∀z2 z3:D,exS aH K.dt ⟨[.ref 0 0 E.length,.fn N.dC [.bp 1 0],z2,z3,I E.length,I 0],[oK E 0,.box [.t (tL l)]]⟩=
  some (match (List.range E.length).find? (fun j=>decide (((nth E j).r:Int)∈l))with
   | some j=>(.ret,⟨[.ref 0 0 E.length,.fn N.dC [.bp 1 0],I j,I j,I E.length,I j],[oK E 0,.box [.t (tL l)]]⟩)
   | none=>(.exit 0,⟨[.ref 0 0 E.length,.fn N.dC [.bp 1 0],.und,.und,I E.length,I E.length],[oK E 0,.box [.t (tL l)]]⟩)):=by
  intro z2 z3
  refine cq (fun j=>⟨[.ref 0 0 E.length,.fn N.dC [.bp 1 0],.und,.und,I E.length,I j],[oK E 0,.box [.t (tL l)]]⟩) E.length (fun j=>decide (((nth E j).r:Int)∈l)) _ _ rfl ?_ ?_ ?_ (by simp)
  · intro j hj hp'
    have b1:=Jw l hll (nth E j)
    rw[hp']at b1
    simp(disch:=omega)only[go_sem,K.aS,↓reduceIte,b1,reduceAdd,reduceSub]
  · intro j hj hp'
    have b1:=Jw l hll (nth E j)
    rw[hp']at b1
    refine⟨?_,by simp⟩
    simp(disch:=omega)only[go_sem,K.aS,↓reduceIte,b1,reduceAdd,reduceSub]
  · simp(disch:=omega)only[go_sem,K.aS,↓reduceIte,reduceAdd,reduceSub]
 cases hf:(List.range E.length).find? (fun j=>decide (((nth E j).r:Int)∈l))with
 | some j=>
   rw[hf]at loop
   simp(disch:=omega)only[go_sem,K.ax,↓reduceIte,loop,reduceAdd,reduceSub]
 | none=>
   rw[hf]at loop
   simp(disch:=omega)only[go_sem,K.ax,↓reduceIte,loop,reduceAdd,reduceSub]
def oB(l:List Int)(e:Edge):Bool:= !decide ((e.r:Int)∈l)
def Bi(l:List Int)(E:List Edge):List Edge:=E.filter (oB l)
def xE(l:List Int)(E:List Edge)(j:Nat):List Edge:=(E.take j).filter (oB l)
theorem yL(l:List Int)(E:List Edge)(j:Nat):(xE l E j).length≤j:=by
 unfold xE
 have:=List.length_filter_le (oB l) (E.take j)
 have:=List.length_take_le j E
 omega
theorem yM(l:List Int)(E:List Edge){j:Nat}(hj:j<E.length):xE l E (j+1)=xE l E j++(if oB l (nth E j)then [nth E j]else []):=by
 unfold xE
 rw[List.take_succ,c7 hj,List.filter_append]
 cases h:oB l (nth E j)<;>simp[h]
theorem EX(l:List Int)(E:List Edge):xE l E E.length=Bi l E:=by unfold xE Bi;rw[List.take_length]
theorem TV{A B:List Edge}{i:Nat}(h:A.length≤i):nth (A++B) i=nth B (i-A.length):=by
 unfold nth
 simp only[aLl,aLh h]
theorem QF{A:List Edge}{k i:Nat}:nth (A.drop k) i=nth A (k+i):=by
 unfold nth
 simp only[aLl,List.getElem?_drop]
def EY(l:List Int)(E:List Edge)(j:Nat):List Edge:=xE l E j++E.drop (xE l E j).length
theorem EZ(l:List Int)(E:List Edge){j:Nat}(hj:j≤E.length):(EY l E j).length=E.length:=by
 unfold EY
 have:=yL l E j
 rw[aLv,List.length_drop];omega
theorem TW(l:List Int)(E:List Edge)(j:Nat){i:Nat}(hi:j≤i):nth (EY l E j) i=nth E i:=by
 unfold EY
 have:=yL l E j
 rw[TV (by omega),QF]
 congr 1
 omega
theorem TX(l:List Int)(E:List Edge){j:Nat}(hj:j<E.length)(h:oB l (nth E j)=true):(EY l E j).set (xE l E j).length (nth E j)=EY l E (j+1):=by
 unfold EY
 have dl:=yL l E j
 rw[yM l E hj,if_pos h,List.set_append_right _ _ (aLs _),Nat.sub_self,aLv,List.length_singleton,List.append_assoc]
 congr 1
 have:E.drop (xE l E j).length=nth E (xE l E j).length::E.drop ((xE l E j).length+1):=by
  have hl:(xE l E j).length<E.length:=by omega
  rw[List.drop_eq_getElem_cons hl]
  congr 1
  have:=c7 hl
  rw[aLc hl]at this
  exact Option.some.inj this
 rw[this]
 rfl
theorem QG(l:List Int)(E:List Edge){j:Nat}(hj:j<E.length)(h:oB l (nth E j)=false):xE l E (j+1)=xE l E j∧EY l E j=EY l E (j+1):=by
 have:xE l E (j+1)=xE l E j:=by rw[yM l E hj,h];simp
 unfold EY
 rw[this]
 exact⟨rfl,rfl⟩
theorem TY(L:List Edge)(j:Nat)(a b c d:Int)(x:Edge)(h:x.e= .agg [.int .i64 a,.int .i64 b,.int .i64 c,.int .i64 d]):(List.map D.t (List.map Edge.e L)).set j (D.t (.agg [.int .i64 a,.int .i64 b,.int .i64 c,.int .i64 d]))=List.map D.t (List.map Edge.e (L.set j x)):=by
 simp only[List.map_set,h]
theorem TZ(l:List Int)(hll:l.length≤100000000)(E:List Edge)(hl:E.length≤1000)(i:Nat)(hi:i<E.length)(h0:xE l E (i+1)=xE l E i)(h00:(xE l E i).length=i)(z2 z5:D):
 exS aH K.fN ⟨[.ref 0 0 E.length,.fn N.dC [.bp 1 0],z2,I i,I (i+1),z5],[oK E 0,.box [.t (tL l)]]⟩=
  some (.exit 0,⟨[.ref 0 0 E.length,.fn N.dC [.bp 1 0],.und,I (Bi l E).length,I E.length,.und],[oK (EY l E E.length) 0,.box [.t (tL l)]]⟩):=by
 have e0:EY l E (i+1)=E:=by
  unfold EY
  rw[h0]
  have:xE l E i=E.take i:=by
   have:=List.filter_sublist (p:=oB l) (l:=E.take i)
   exact this.eq_of_length (by rw[show((E.take i).filter (oB l)).length=i from h00,List.length_take];omega)
  rw[h00,this,List.take_append_drop]
 rw[← EX]
 refine bz (fun k=>⟨[.ref 0 0 E.length,.fn N.dC [.bp 1 0],.und,I (xE l E (i+1+k)).length,I ((i+1+k:Nat)),.und],[oK (EY l E (i+1+k)) 0,.box [.t (tL l)]]⟩) (E.length-(i+1)) ?_ ?_ ?_ (by simp)
 · simp only[Nat.add_zero,e0,h0,h00]
   rfl
 · intro k hk
   have hj:i+1+k<E.length:=by omega
   rw[show i+1+(k+1)=i+1+k+1 from rfl]
   generalize i+1+k=j at*
   have t1:=Jw l hll (nth E j)
   have ln:=EZ l E (j:=j) (by omega)
   have nx:=TW l E j (i:=j) (aLs _)
   have dl:=yL l E j
   have st:=TX l E hj
   have sm:=QG l E hj
   have sp:=yM l E hj
   generalize hx:nth E j=x at*
   have hk:oB l x= !decide ((x.r:Int)∈l):=rfl
   generalize decide ((x.r:Int)∈l)=c at*
   generalize EY l E j=A at*
   generalize xE l E j=F at*
   obtain⟨xr,xa,xb,xt⟩:=x
   cases c with
   | true=>
     obtain⟨s1,s2⟩:=sm hk
     rw[s1,←s2]
     simp(disch:=omega)only[go_sem,K.bQ,↓reduceIte,t1,nx,Bool.not_true,reduceAdd,reduceSub]
   | false=>
     rw[← st hk,sp,if_pos (show oB l ⟨xr,xa,xb,xt⟩=true from hk)]
     simp(disch:=omega)only[go_sem,K.bQ,↓reduceIte,t1,nx,Bool.not_false,aLv,List.length_singleton,TY A F.length xr xa xb xt ⟨xr,xa,xb,xt⟩ rfl,reduceAdd,reduceSub]
 · have:i+1+(E.length-(i+1))=E.length:=by omega
   rw[this]
   have ln:=EZ l E (j:=E.length) (aLs _)
   generalize EY l E E.length=A at*
   generalize xE l E E.length=F at*
   simp(disch:=omega)only[go_sem,K.bQ,↓reduceIte,reduceAdd,reduceSub]
theorem QH(l:List Int)(hll:l.length≤100000000)(E:List Edge)(hl:E.length≤1000):
 aH 1 N.aD [.ref 0 0 E.length,.fn N.dC [.bp 1 0]] [oK E 0,.box [.t (tL l)]]=
  some (.ref 0 (if(E.all (oB l))=true then 0 else 1) (Bi l E).length,[oK (Bi l E) (if(E.all (oB l))=true then 0 else 1),.box [.t (tL l)]]):=by
 refine av K.dr rfl ?_
 have ix:=QE l hll E hl
 cases hf:(List.range E.length).find? (fun j=>decide (((nth E j).r:Int)∈l))with
 | none=>
   rw[hf]at ix
   have al:E.all (oB l)=true:=by
    rw[aLx]
    intro e he
    obtain⟨j,hj,rfl⟩:=List.mem_iff_getElem.1 he
    have:=List.find?_eq_none.1 hf j (aLu.2 hj)
    have e2:nth E j=E[j]:=bD (aLc hj)
    rw[e2]at this
    unfold oB
    simpa using this
   have de:Bi l E=E:=by unfold Bi;exact List.filter_eq_self.2 (aLx.1 al)
   rw[if_pos al,de]
   simp(disch:=omega)only[go_sem,K.aD,↓reduceIte,ix,reduceAdd,reduceSub]
 | some i=>
   rw[hf]at ix
   have hi:=aLu.1 (List.mem_of_find?_eq_some hf)
   have hp:=List.find?_some hf
   have lt:∀j,j<i→oB l (nth E j)=true:=by
    intro j hj
    have:=(List.find?_range_eq_some.1 hf).2.2 j hj
    unfold oB
    simpa using this
   have al:¬E.all (oB l)=true:=by
    intro h
    have:=aLx.1 h _ (ai hi)
    unfold oB at this
    rw[hp]at this
    cases this
   have tk:xE l E i=E.take i:=by
    unfold xE
    rw[List.filter_eq_self]
    intro e he
    obtain⟨j,hj,rfl⟩:=List.mem_iff_getElem.1 he
    rw[List.length_take]at hj
    have:=lt j (by omega)
    have e2:nth E j=E[j]:=bD (aLc (by omega))
    rw[e2]at this
    simpa using this
   have h00:(xE l E i).length=i:=by rw[tk,List.length_take];omega
   have h0:xE l E (i+1)=xE l E i:=by
    rw[yM l E hi]
    have:oB l (nth E i)=false:=by unfold oB;rw[hp];rfl
    rw[this];simp
   have lp:=TZ l hll E hl i hi h0 h00
   have dl:=yL l E E.length
   have al2:=EZ l E (j:=E.length) (aLs _)
   have da:(EY l E E.length).take (Bi l E).length=Bi l E:=by
    unfold EY
    rw[EX,List.take_left]
   rw[EX]at dl
   rw[if_neg al]
   generalize EY l E E.length=A at*
   generalize Bi l E=F at*
   have ta:List.take F.length (List.map D.t (List.map Edge.e A))=List.map D.t (List.map Edge.e F):=by rw[← List.map_take,←List.map_take,da]
   have al3:E.length=(List.map D.t (List.map Edge.e A)).length:=by simp[al2]
   have ta2:∀x y:List D,List.take F.length (List.take F.length (List.map D.t (List.map Edge.e A))++x++y)=List.map D.t (List.map Edge.e F):=by
    intro x y
    rw[ta,List.append_assoc,List.take_left' (by simp)]
   have al4:∀z:D,E.length=(List.take F.length (List.map D.t (List.map Edge.e A))++List.replicate (E.length-F.length) z++List.drop E.length (List.map D.t (List.map Edge.e A))).length:=by
    intro z
    simp only[aLv,List.length_take,List.length_replicate,List.length_drop,List.length_map]
    omega
   have al5:=al4 (D.t (T.agg [T.int IntKind.i64 0,T.int IntKind.i64 0,T.int IntKind.i64 0,T.int IntKind.i64 0]))
   simp(disch:=omega)only[go_sem,K.aD,↓reduceIte,ix,lp,ta2,reduceAdd,reduceSub]
end Go.Ev
namespace Go.Ev
open Go
variable [Lib] [bX] [bJ] [fR] [fS] [iK] [fy] [fo] [gU] [fM] [cV] [cI] [fB] [eu] [jb] [iE] [gl] [eQ] [jj]
def Ht(m:aC)(p:Nat):Nat→Int
 | 0=>0
 | j+1=>if(nth m.roads j).frm=p then max (if(nth m.roads j).to=p then max (Ht m p j) (kt m j false)else Ht m p j) (kt m j true)
  else(if(nth m.roads j).to=p then max (Ht m p j) (kt m j false)else Ht m p j)
def M0(m:aC)(p:Nat):Int:=Ht m p m.roads.length
theorem CF{m:aC}(hm:m.ok)(p:Nat):∀j,j≤m.roads.length→0≤Ht m p j∧Ht m p j≤500001
 | 0,_=>by simp[Ht]
 | j+1,hj=>by
   have ih:=CF hm p j (by omega)
   have b1:=lu hm j (by omega) false
   have b2:=lu hm j (by omega) true
   unfold Ht
   split<;>split<;>omega
theorem ZC{m:aC}(hm:m.ok)(p:Nat)(hp:p<m.aa.length):aH 0 N.nf [.t m.e,I p] []=some (I (M0 m p),[]):=by
 refine av K.zH rfl ?_
 have np:=hm.np
 have nr:=hm.nr
 have loop:∀z0 z3 z5 z6:D,exS aH K.CC ⟨[z0,I p,.bp 0 0,z3,I 0,z5,z6,.t (.sl (m.roads.map Road.e)),I m.roads.length,I 0],[.box (ae m)]⟩=
  some (.exit 0,⟨[.und,I p,.bp 0 0,.und,I (M0 m p),.und,.und,.t (.sl (m.roads.map Road.e)),I m.roads.length,I m.roads.length],[.box (ae m)]⟩):=by
  intro z0 z3 z5 z6
  refine bz (fun j=>⟨[.und,I p,.bp 0 0,.und,I (Ht m p j),.und,.und,.t (.sl (m.roads.map Road.e)),I m.roads.length,I j],[.box (ae m)]⟩) m.roads.length rfl ?_ ?_ (by simp)
  · intro j hj
    have w1:=sM hm j hj false
    have w2:=sM hm j hj true
    have b0:=CF hm p j (by omega)
    have b1:=lu hm j hj false
    have b2:=lu hm j hj true
    have ex:(m.roads.map Road.e)[j]?=some (nth m.roads j).e:=bR _ hj
    conv=>rhs;unfold Ht
    generalize Ht m p j=L at*
    generalize kt m j false=u at*
    generalize kt m j true=v at*
    generalize nth m.roads j=x at*
    obtain⟨frm,to,len,ar,walk,closed,rl,rh,ll,lh⟩:=x
    simp only at*
    obtain⟨aa,roads⟩:=m
    simp only[ae]at*
    by_cases c1:frm=p<;>by_cases c2:to=p
    all_goals simp(disch:=omega)only[go_sem,K.uG,↓reduceIte,ex,w1,w2,c1,c2,reduceAdd,reduceSub]
  · obtain⟨aa,roads⟩:=m
    simp only[ae]at*
    simp(disch:=omega)only[go_sem,K.uG,↓reduceIte,reduceAdd,reduceSub]
    rfl
 generalize M0 m p=r at*
 obtain⟨aa,roads⟩:=m
 simp only[ae]at*
 simp(disch:=omega)only[go_sem,K.nf,↓reduceIte,loop,reduceAdd,reduceSub]
abbrev nD(P:List Edge):List Int:=P.map fun e=>(e.r:Int)
abbrev Jx(P:List Edge):List Int:=P.map fun e=>(e.b:Int)
def w1E(m:aC)(e:Esc)(p:Nat):List Edge:=Zu (dH m e) (sfL m e) (bdL m e) m.aa.length p
def c1E(m:aC)(e:Esc)(p:Nat):Int:=(nth (iH (dH m e) (sfL m e) (bdL m e) m.aa.length) p).t
def bd2(m:aC)(e:Esc)(p:Nat):List Bool:=wD (bdL m e) (Jx (w1E m e p)) (Jx (w1E m e p)).length
def st2(m:aC)(e:Esc)(p:Nat):List Edge:=Bi (nD (w1E m e p)) (dH m e)
def w2E(m:aC)(e:Esc)(p:Nat):List Edge:=Zu (st2 m e p) (sfL m e) (bd2 m e p) m.aa.length p
def c2E(m:aC)(e:Esc)(p:Nat):Int:=(nth (iH (st2 m e p) (sfL m e) (bd2 m e p) m.aa.length) p).t
def aje(m:aC)(e:Esc)(p:Nat):D:=
 if nth (sfL m e) p=true then .tup [.t (tL []),.t (tL []),.t (.agg [tI 0,tI 0]),B true]
 else if c1E m e p<j5 then
  if c2E m e p<j5 then .tup [.t (tL (nD (w1E m e p))),.t (tL (nD (w2E m e p))),.t (.agg [tI (c1E m e p),tI (c2E m e p)]),B true]
  else .tup [.t (tL []),.t (tL []),.t (.agg [tI (c1E m e p),tI 0]),B false]
 else .tup [.t (tL []),.t (tL []),.t (.agg [tI 0,tI 0]),B false]
theorem cN{m:aC}(hm:m.ok)(e:Esc):∀x∈dH m e,x.ok m.aa.length:=Hr hm e _ (aLs _)
theorem QI{m:aC}(hm:m.ok)(e:Esc):(dH m e).length≤256:=by have:=vB m e m.roads.length;have:=hm.nr;unfold dH;omega
theorem E3{n:Nat}(l:List Int){E:List Edge}(h:∀e∈E,e.ok n):∀e∈Bi l E,e.ok n:=fun e he=>h e (List.mem_filter.1 he).1
theorem T0(l:List Int)(E:List Edge):(Bi l E).length≤E.length:=List.length_filter_le _ _
theorem Hu{m:aC}(hm:m.ok)(e:Esc){p:Nat}(hp:p<m.aa.length)(hf:c1E m e p<j5):VM j5 m.aa.length (dH m e) (uB (sfL m e) (bdL m e)) (qB (sfL m e)) (iH (dH m e) (sfL m e) (bdL m e) m.aa.length) p (w1E m e p):=
 Qq (zI (cN hm e)) (cN hm e) _ p hp hf (aLs _)
theorem E4{m:aC}(hm:m.ok)(e:Esc){p:Nat}(hp:p<m.aa.length)(hf:c1E m e p<j5):(w1E m e p).length≤64000000:=by
 have key:∀k p,(lW (qB (sfL m e)) (uB (sfL m e) (bdL m e)) (dH m e) (iH (dH m e) (sfL m e) (bdL m e) m.aa.length) k p).length≤k:=by
  intro k
  induction k with
  | zero=>intro p;simp[lW]
  | succ k ih=>
    intro p
    unfold lW
    split
    · simp
    · split
      · have:=ih (by assumption:Edge).b;simp;omega
      · simp
 have h1:=key (nth (iH (dH m e) (sfL m e) (bdL m e) m.aa.length) p).r.toNat p
 have h2:=sO (sf:=sfL m e) (bd:=bdL m e) (cN hm e) hm.np hp hf
 unfold w1E Zu
 omega
theorem T1(E:List Edge)(sf bd:List Bool)(n:Nat)(hs:sf.length=n)(hb:bd.length=n)(p:Nat)(m:aC)(e:Esc)(W M:List Int)(hM:∀x∈M,0≤x∧x<n)(hl:M.length≤100000000)(hn:n≤64)(t1:Int)(z0 z1 z3 z4 z6 z8 z10 z11 z12:D):
 exS aH K.CB ⟨[z0,z1,I p,z3,z4,.bp 2 0,z6,.bp 3 0,z8,.bp 7 0,z10,z11,z12,.t (tL M),I M.length,I 0],[.box (ae m),.box (gV e),.box [.t (tL W)],.box [I t1,I 0],oK E 0,kJ sf,kJ bd,.box (CY 4 E 0 n)]⟩=
  some (.exit 0,⟨[.und,.und,I p,.und,.und,.bp 2 0,.und,.bp 3 0,.und,.bp 7 0,.und,.und,.und,.t (tL M),I M.length,I M.length],[.box (ae m),.box (gV e),.box [.t (tL W)],.box [I t1,I 0],oK E 0,kJ sf,kJ (wD bd M M.length),.box (CY 4 E 0 n)]⟩):=by
 refine bz (fun j=>⟨[.und,.und,I p,.und,.und,.bp 2 0,.und,.bp 3 0,.und,.bp 7 0,.und,.und,.und,.t (tL M),I M.length,I j],[.box (ae m),.box (gV e),.box [.t (tL W)],.box [I t1,I 0],oK E 0,kJ sf,kJ (wD bd M j),.box (CY 4 E 0 n)]⟩) M.length (by simp only[go_sem,wD]) ?_ ?_ (by simp)
 · intro j hj
   have ln:=ku bd M j
   have hx:=hM _ (ai hj)
   simp only[wD]
   generalize wD bd M j=L at*
   simp(disch:=omega)only[go_sem,K.uF,↓reduceIte,A9,reduceAdd,reduceSub]
 · have ln:=ku bd M M.length
   generalize wD bd M M.length=L at*
   simp(disch:=omega)only[go_sem,K.uF,↓reduceIte,reduceAdd,reduceSub]
theorem aeL{m:aC}(hm:m.ok){e:Esc}(he:e.ok m)(p:Nat)(hp:p<m.aa.length):aH 0 N.j4 [.t m.e,.t e.e,I p] []=some (aje m e p,[]):=by
 refine av K.zG rfl ?_
 have np:=hm.np
 have th:=Hp hm he p hp
 have fi:=Zz hm he (by omega)
 have wl:=QI hm e
 have s1:=Jv m e
 have s2:=zJ m e
 have b1:=QB (dH m e) (sfL m e) (bdL m e) 0 m.aa.length s1 s2 np (cN hm e) (by omega) p hp
 unfold aje
 cases hsp:nth (sfL m e) p with
 | true=>
   rw[if_pos rfl]
   generalize sfL m e=sf at*
   generalize bdL m e=bd at*
   generalize dH m e=E at*
   obtain⟨aa,roads⟩:=m
   obtain⟨safe,bad,shut,b9⟩:=e
   simp only[ae,gV]at*
   simp(disch:=omega)only[go_sem,K.j4,↓reduceIte,th,fi,hsp,reduceAdd,reduceSub]
   rfl
 | false=>
   rw[if_neg (by simp)]
   have pk:=fun hf=>Hu hm e hp hf
   have wl1:=fun hf=>E4 hm e hp hf
   have dl:=QH (nD (w1E m e p))
   have lp:=T1 (dH m e) (sfL m e) (bdL m e) m.aa.length s1 s2 p m e (nD (w1E m e p)) (Jx (w1E m e p))
   have b2:=fun ep=>QB (st2 m e p) (sfL m e) (bd2 m e p) ep m.aa.length s1 (by unfold bd2;rw[ku,s2]) np (E3 _ (cN hm e)) (by have:=T0 (nD (w1E m e p)) (dH m e);unfold st2;omega) p hp
   have e2:wD (bdL m e) (Jx (w1E m e p)) (Jx (w1E m e p)).length=bd2 m e p:=rfl
   have e3:Bi (nD (w1E m e p)) (dH m e)=st2 m e p:=rfl
   have db:TT (dH m e) (sfL m e) (bdL m e) m.aa.length p=if c1E m e p<j5 then .tup [.t (tL (nD (w1E m e p))),I (c1E m e p),.t (tL ((p:Int)::Jx (w1E m e p))),B true]else .tup [.t (tL []),I 0,.t (tL []),B false]:=rfl
   have db2:TT (st2 m e p) (sfL m e) (bd2 m e p) m.aa.length p=if c2E m e p<j5 then .tup [.t (tL (nD (w2E m e p))),I (c2E m e p),.t (tL ((p:Int)::Jx (w2E m e p))),B true]else .tup [.t (tL []),I 0,.t (tL []),B false]:=rfl
   by_cases h1:c1E m e p<j5
   · rw[if_pos h1]
     rw[if_pos h1]at db
     have pk:=pk h1
     have wl1:=wl1 h1
     have pm:∀x∈Jx (w1E m e p),0≤x∧x<m.aa.length:=by
      intro x hx
      obtain⟨y,hy,rfl⟩:=List.mem_map.1 hx
      have:=(pk.mem y hy).2.2
      omega
     have lp:=lp pm (by simp;omega) np (c1E m e p)
     have dl:=dl (by simp;omega) (dH m e) (by omega)
     rw[e2]at lp
     rw[e3]at dl
     rw[db]at b1
     have c1:=sO (sf:=sfL m e) (bd:=bdL m e) (cN hm e) np hp h1
     have c2:=fun h2=>sO (sf:=sfL m e) (bd:=bd2 m e p) (E3 (nD (w1E m e p)) (cN hm e)) np hp h2
     have ml:(Jx (w1E m e p)).length≤64000000:=by simp;omega
     have rl:(nD (w1E m e p)).length≤64000000:=by simp;omega
     have e4:(nth (iH (dH m e) (sfL m e) (bdL m e) m.aa.length) p).t=c1E m e p:=rfl
     rw[e4]at c1
     generalize hep:(if(dH m e).all (oB (nD (w1E m e p)))=true then 0 else 1)=ep at*
     have b2:=b2 ep
     rw[db2]at b2
     clear db db2 e2 e3 pm pk wl1 e4 hep c2
     generalize Jx (w1E m e p)=PM at*
     generalize nD (w1E m e p)=PR at*
     generalize Jx (w2E m e p)=QM at*
     generalize nD (w2E m e p)=QR at*
     generalize c1E m e p=t1 at*
     generalize c2E m e p=t2 at*
     generalize st2 m e p=E2 at*
     generalize bd2 m e p=bdx at*
     generalize sfL m e=sf at*
     generalize bdL m e=bd at*
     generalize dH m e=E at*
     obtain⟨aa,roads⟩:=m
     obtain⟨safe,bad,shut,b9⟩:=e
     simp only[ae,gV]at*
     simp(disch:=omega)only[go_sem,K.j4,↓reduceIte,th,fi,hsp,b1,Nat.reduceMul,reduceAdd,reduceSub]
     refine ig (lp _ _ _ _ _ _ _ _ _) ?_
     by_cases h2:t2<j5
     · rw[if_pos h2]
       rw[if_pos h2]at b2
       simp(disch:=omega)only[go_sem,K.j4,↓reduceIte,dl,b2,Nat.reduceMul,reduceAdd,reduceSub]
     · rw[if_neg h2]
       rw[if_neg h2]at b2
       simp(disch:=omega)only[go_sem,K.j4,↓reduceIte,dl,b2,Nat.reduceMul,reduceAdd,reduceSub]
       rfl
   · rw[if_neg h1]
     rw[if_neg h1]at db
     rw[db]at b1
     clear db db2 b2 e2 e3 lp dl wl1 pk
     generalize sfL m e=sf at*
     generalize bdL m e=bd at*
     generalize dH m e=E at*
     obtain⟨aa,roads⟩:=m
     obtain⟨safe,bad,shut,b9⟩:=e
     simp only[ae,gV,tL,List.map_nil]at*
     simp(disch:=omega)only[go_sem,K.j4,↓reduceIte,th,fi,hsp,b1,reduceAdd,reduceSub]
def km(m:aC)(e:Esc)(p:Nat):Bool:=
 if nth (sfL m e) p=true then decide (M0 m p≤e.b9)
 else decide (c1E m e p<j5∧c2E m e p<j5∧M0 m p+max (c1E m e p) (c2E m e p)≤e.b9)
theorem M1{m:aC}(hm:m.ok){e:Esc}(he:e.ok m)(p:Nat)(hp:p<m.aa.length):aH 0 N.dq [.t m.e,.t e.e,I p] []=some (B (km m e p),[]):=by
 refine av K.sI rfl ?_
 have tw:=aeL hm he p hp
 have lg:=ZC hm p hp
 have lb:=CF hm p m.roads.length (aLs _)
 have le:Ht m p m.roads.length=M0 m p:=rfl
 rw[le]at lb
 have c1:=fun h1=>sO (sf:=sfL m e) (bd:=bdL m e) (cN hm e) hm.np hp h1
 have c2:=fun h2=>sO (sf:=sfL m e) (bd:=bd2 m e p) (E3 (nD (w1E m e p)) (cN hm e)) hm.np hp h2
 have e1:(nth (iH (dH m e) (sfL m e) (bdL m e) m.aa.length) p).t=c1E m e p:=rfl
 have e2:(nth (iH (Bi (nD (w1E m e p)) (dH m e)) (sfL m e) (bd2 m e p) m.aa.length) p).t=c2E m e p:=rfl
 rw[e1]at c1
 rw[e2]at c2
 unfold km
 unfold aje at tw
 generalize M0 m p=lag at*
 generalize c1E m e p=t1 at*
 generalize c2E m e p=t2 at*
 generalize tL (nD (w1E m e p))=PR at*
 generalize tL (nD (w2E m e p))=QR at*
 generalize tL []=NR at*
 have fc:j5=1152921504606846976:=rfl
 clear e1 e2 le
 cases hs:nth (sfL m e) p with
 | true=>
   rw[hs,if_pos rfl]at tw
   rw[if_pos rfl]
   clear hs c1 c2
   obtain⟨aa,roads⟩:=m
   obtain⟨safe,bad,shut,b9⟩:=e
   have:=he.l0
   have:=he.l1
   simp only at*
   have mx:max (0:Int) 0=0:=by omega
   by_cases c:lag≤b9
   · simp(disch:=omega)only[go_sem,K.dq,↓reduceIte,tw,lg,c,Int.add_zero,mx,decide_true,Nat.reduceMul,reduceAdd,reduceSub]
   · simp(disch:=omega)only[go_sem,K.dq,↓reduceIte,tw,lg,c,Int.add_zero,mx,decide_false,Nat.reduceMul,reduceAdd,reduceSub]
 | false=>
   rw[hs,if_neg (by simp)]at tw
   rw[if_neg (by simp)]
   clear hs
   obtain⟨aa,roads⟩:=m
   obtain⟨safe,bad,shut,b9⟩:=e
   have:=he.l0
   have:=he.l1
   simp only at*
   by_cases h1:t1<j5
   · rw[if_pos h1]at tw
     have c1:=c1 h1
     by_cases h2:t2<j5
     · rw[if_pos h2]at tw
       have c2:=c2 h2
       by_cases c:lag+max t1 t2≤b9
       · simp(disch:=omega)only[go_sem,K.dq,↓reduceIte,tw,lg,c,h1,h2,decide_true,Nat.reduceMul,and_self,reduceAdd,reduceSub]
       · simp(disch:=omega)only[go_sem,K.dq,↓reduceIte,tw,lg,c,h1,h2,decide_false,Nat.reduceMul,and_false,reduceAdd,reduceSub]
     · rw[if_neg h2]at tw
       clear c2
       simp(disch:=omega)only[go_sem,K.dq,↓reduceIte,tw,lg,h2,false_and,and_false,decide_false,reduceAdd,reduceSub]
   · rw[if_neg h1]at tw
     clear c1 c2
     simp(disch:=omega)only[go_sem,K.dq,↓reduceIte,tw,lg,h1,false_and,decide_false,reduceAdd,reduceSub]
abbrev nvr:Int:=1099511627776
def VT(m:aC)(e:Esc)(p j:Nat):List Edge:=if 0≤(jm m j p).2∧(j:Int)∉e.shut then [⟨j,p,(jm m j p).1.toNat,(jm m j p).2⟩]else []
def AF(m:aC)(e:Esc)(p:Nat):Nat→List Edge
 | 0=>[]
 | j+1=>AF m e p j++VT m e p j
def agT(m:aC)(e:Esc)(p:Nat):List Edge:=if sfF m e p=true then []else AF m e p m.roads.length
def Bj(m:aC)(e:Esc):Nat→List Edge
 | 0=>[]
 | i+1=>Bj m e i++agT m e i
def uR(e:Esc)(x:Edge):Bool:= !bdF e x.b
def zR(m:aC)(e:Esc)(p:Nat):Bool:=sfF m e p&& !bdF e p
def RY(m:aC)(e:Esc)(p:Nat):Lab:=if zR m e p=true then⟨0,0⟩else⟨nvr,0⟩
def FO(m:aC)(e:Esc)(j:Nat):List Lab:=(List.range j).map (RY m e)
theorem Bk(m:aC)(e:Esc)(j:Nat):(FO m e j).length=j:=by simp[FO]
theorem QJ(m:aC)(e:Esc)(j:Nat):FO m e (j+1)=FO m e j++[RY m e j]:=by
 unfold FO;rw[List.range_succ,List.map_append];rfl
theorem vC(m:aC)(e:Esc){n p:Nat}(hp:p<n):nth (FO m e n) p=RY m e p:=by
 refine bD ?_
 unfold FO
 rw[aLn,aLp hp]
 rfl
theorem vD{m:aC}(hm:m.ok){j p:Nat}(hj:j<m.roads.length)(hp:p<m.aa.length)(h:0≤(jm m j p).2):0≤(jm m j p).1∧(jm m j p).1<m.aa.length∧1≤(jm m j p).2∧(jm m j p).2≤500001:=by
 obtain⟨f0,f1,t0,t1, -, -, -, -, -, -, -, -, -, -, -⟩:=hm.rs _ (ai hj)
 have s1:=lu hm j hj false
 have s2:=lu hm j hj true
 unfold jm at*
 split
 · rename_i hc
   rw[if_pos hc]at h
   simp only at h ⊢
   omega
 · rename_i hc
   rw[if_neg hc]at h
   split
   · rename_i hd
     rw[if_pos hd]at h
     simp only at h ⊢
     omega
   · rename_i hd
     rw[if_neg hd]at h
     simp only at h
     omega
theorem E5{m:aC}(hm:m.ok)(e:Esc){p:Nat}(hp:p<m.aa.length):∀j,j≤m.roads.length→∀x∈AF m e p j,x.ok m.aa.length∧x.a=p
 | 0,_=>by simp[AF]
 | j+1,hj=>by
   intro x hx
   rw[AF,List.mem_append]at hx
   rcases hx with hx | hx
   · exact E5 hm e hp j (by omega) x hx
   · unfold VT at hx
     split at hx
     · rename_i hc
       rw[List.mem_singleton]at hx
       subst hx
       have:=vD hm (by omega) hp hc.1
       exact⟨⟨hp,by simp only;omega,by simp only;omega,by simp only;omega⟩,rfl⟩
     · cases hx
theorem CG{m:aC}(hm:m.ok)(e:Esc):∀i,i≤m.aa.length→∀x∈Bj m e i,x.ok m.aa.length∧sfF m e x.a=false
 | 0,_=>by simp[Bj]
 | i+1,hi=>by
   intro x hx
   rw[Bj,List.mem_append]at hx
   rcases hx with hx | hx
   · exact CG hm e i (by omega) x hx
   · unfold agT at hx
     split at hx
     · cases hx
     · rename_i hc
       obtain⟨h1,h2⟩:=E5 hm e (by omega) _ (aLs _) x hx
       exact⟨h1,by rw[h2];simpa using hc⟩
abbrev yN(m:aC)(e:Esc)(L:List Lab):aq:=[.box (ae m),.box (gV e),MR L]
theorem aeM{m:aC}(hm:m.ok){e:Esc}(he:e.ok m)(z0 z1 z4 z7 z8 z9 z10 z11 z12 z13:D):
 exS aH K.pq ⟨[z0,z1,.bp 0 0,.bp 1 0,z4,.ref 2 0 0,I 0,z7,z8,z9,z10,z11,z12,z13],yN m e []⟩=
  some (.exit 0,⟨[.und,.und,.bp 0 0,.bp 1 0,.und,.ref 2 0 m.aa.length,I m.aa.length,.und,.und,.und,.und,.und,.und,.und],yN m e (FO m e m.aa.length)⟩):=by
 have np:=hm.np
 have key:exS aH K.pq ⟨[z0,z1,.bp 0 0,.bp 1 0,z4,.ref 2 0 0,I 0,z7,z8,z9,z10,z11,z12,z13],yN m e []⟩=
  some (.exit 0,⟨[.und,.und,.bp 0 0,.bp 1 0,.und,.ref 2 0 (FO m e m.aa.length).length,I m.aa.length,.und,.und,.und,.und,.und,.und,.und],yN m e (FO m e m.aa.length)⟩):=by
  refine bz (fun j=>⟨[.und,.und,.bp 0 0,.bp 1 0,.und,.ref 2 0 (FO m e j).length,I j,.und,.und,.und,.und,.und,.und,.und],yN m e (FO m e j)⟩) m.aa.length (by simp only[go_sem];rfl) ?_ ?_ (by simp)
  · intro j hj
    rw[QJ]
    have ln:=Bk m e j
    have sf:=sN hm (e:=e) (by have:=he.sl hm;omega) j hj
    have hb:=mO e.bad j (by have:=he.bl hm;omega)
    unfold RY zR bdF
    generalize FO m e j=L at*
    generalize sfF m e j=c1 at*
    generalize decide ((j:Int)∈e.bad)=c2 at*
    obtain⟨aa,roads⟩:=m
    obtain⟨safe,bad,shut,b9⟩:=e
    simp only[ae,gV,yN]at*
    cases c1<;>cases c2
    all_goals
     simp(disch:=omega)only[go_sem,K.nW,↓reduceIte,sf,hb,Bool.not_true,Bool.not_false,Bool.and_true,Bool.and_false,Bool.false_and,Bool.true_and,aLv,List.length_singleton,reduceAdd,reduceSub]
     simp only[MR,List.map_append,List.map_cons,List.map_nil]
  · have ln:=Bk m e m.aa.length
    generalize FO m e m.aa.length=L at*
    obtain⟨aa,roads⟩:=m
    obtain⟨safe,bad,shut,b9⟩:=e
    simp only[ae,gV,yN]at*
    simp(disch:=omega)only[go_sem,K.nW,↓reduceIte,reduceAdd,reduceSub]
 rw[Bk]at key
 exact key
theorem uT(F:Int)(u:Edge→Bool)(s:List Lab×Bool):CW F u ([]:List Edge) s=s:=TC F u s
theorem aeN{m:aC}(hm:m.ok){e:Esc}(he:e.ok m)(p:Nat)(hp:p<m.aa.length)(L:List Lab)(hL:C8 nvr m.aa.length L)(c:Bool)(z0 z1 z4 z6 z7 z11 z12 z13:D):
 exS aH K.uH ⟨[z0,z1,.bp 0 0,.bp 1 0,z4,.ref 2 0 m.aa.length,z6,z7,B c,I p,I 0,z11,z12,z13],yN m e L⟩=
  some (.exit 6,⟨[.und,.und,.bp 0 0,.bp 1 0,.und,.ref 2 0 m.aa.length,.und,.und,B (CW nvr (uR e) (AF m e p m.roads.length) (L,c)).2,I p,I m.roads.length,.und,.und,.und],yN m e (CW nvr (uR e) (AF m e p m.roads.length) (L,c)).1⟩):=by
 have np:=hm.np
 have nr:=hm.nr
 refine bz (fun j=>⟨[.und,.und,.bp 0 0,.bp 1 0,.und,.ref 2 0 m.aa.length,.und,.und,B (CW nvr (uR e) (AF m e p j) (L,c)).2,I p,I j,.und,.und,.und],yN m e (CW nvr (uR e) (AF m e p j) (L,c)).1⟩) m.roads.length (by simp only[go_sem,AF,uT]) ?_ ?_ (by simp)
 · intro j hj
   rw[AF,Ld]
   have li:=Qp (u:=uR e) (E:=AF m e p j) (fun x hx=>(E5 hm e hp j (by omega) x hx).1) (s:=(L,c)) hL
   generalize hM:CW nvr (uR e) (AF m e p j) (L,c)=S at*
   obtain⟨M,d⟩:=S
   clear hM
   simp only at li ⊢
   have ot:=uQ hm j hj p hp
   have oo:=vD hm hj hp
   have hh:=mO e.shut j (by have:=he.hl hm;omega)
   unfold VT
   generalize jm m j p=o at*
   obtain⟨q,t⟩:=o
   simp only at*
   have hb:=mO e.bad q (by have:=he.bl hm;omega)
   by_cases c1:0≤t
   · obtain⟨q0,q1,t1,t2⟩:=oo c1
     obtain⟨k,rfl⟩:=Int.eq_ofNat_of_zero_le q0
     by_cases c2:(j:Int)∈e.shut
     · rw[if_neg (fun h=>h.2 c2),uT]
       rw[decide_eq_true c2]at hh
       obtain⟨aa,roads⟩:=m
       obtain⟨safe,bad,shut,b9⟩:=e
       simp only[ae,gV,yN]at*
       simp(disch:=omega)only[go_sem,K.fe,↓reduceIte,ot,hh,c1,reduceAdd,reduceSub]
     · rw[if_pos ⟨c1,c2⟩,TD]
       rw[decide_eq_false c2]at hh
       have hk:k<m.aa.length:=by omega
       have q1:=li.t0 k hk
       have q2:=li.t1 k hk
       have q3:=li.r0 k hk
       have q4:=li.r1 k hk
       have ml:=li.l
       have bt:=MQ ⟨(nth M k).t+t,(nth M k).r+1⟩ (nth M p)
       have nv:nvr=1099511627776:=rfl
       simp only[Int.toNat_natCast]
       have rf:NH nvr (uR e) M ⟨j,p,k,t⟩=if FM nvr (uR e) M ⟨j,p,k,t⟩=true then M.set p ⟨(nth M k).t+t,(nth M k).r+1⟩else M:=rfl
       have rc:FM nvr (uR e) M ⟨j,p,k,t⟩=(!decide ((k:Int)∈e.bad)&&decide ((nth M k).t<nvr)&&nV ⟨(nth M k).t+t,(nth M k).r+1⟩ (nth M p)):=rfl
       rw[rf]
       clear rf
       generalize FM nvr (uR e) M ⟨j,p,k,t⟩=r at*
       generalize hx:nth M p=x at*
       generalize hy:nth M k=y at*
       obtain⟨xt,xr⟩:=x
       obtain⟨yt,yr⟩:=y
       simp only at*
       have e1:(M.map Lab.e)[p]?=some (Lab.e ⟨xt,xr⟩):=by rw[← hx];exact bR _ (by omega)
       generalize nV ⟨yt+t,yr+1⟩ ⟨xt,xr⟩=lv at*
       by_cases c3:(k:Int)∈e.bad
       · rw[decide_eq_true c3]at hb rc
         simp only[Bool.not_true,Bool.false_and]at rc
         subst rc
         obtain⟨aa,roads⟩:=m
         obtain⟨safe,bad,shut,b9⟩:=e
         simp only[ae,gV,yN]at*
         simp(disch:=omega)only[go_sem,K.fe,↓reduceIte,ot,hh,hb,c1,Bool.or_false,aLt,reduceAdd,reduceSub]
       · rw[decide_eq_false c3]at hb rc
         by_cases c4:yt<1099511627776
         · rw[decide_eq_true (show yt<nvr from c4)]at rc
           simp only[Bool.not_false,Bool.true_and]at rc
           subst rc
           obtain⟨aa,roads⟩:=m
           obtain⟨safe,bad,shut,b9⟩:=e
           simp only[ae,gV,yN]at*
           cases r with
           | true=>
             simp(disch:=omega)only[go_sem,K.fe,↓reduceIte,ot,hh,hb,bt,c1,c4,hx,hy,e1,Bool.or_true,Jr,reduceAdd,reduceSub]
           | false=>
             simp(disch:=omega)only[go_sem,K.fe,↓reduceIte,ot,hh,hb,bt,c1,c4,hx,hy,e1,Bool.or_false,aLt,reduceAdd,reduceSub]
         · rw[decide_eq_false (show ¬yt<nvr from c4)]at rc
           simp only[Bool.not_false,Bool.and_false,Bool.false_and]at rc
           subst rc
           obtain⟨aa,roads⟩:=m
           obtain⟨safe,bad,shut,b9⟩:=e
           simp only[ae,gV,yN]at*
           simp(disch:=omega)only[go_sem,K.fe,↓reduceIte,ot,hh,hb,c1,c4,hx,hy,Bool.or_false,aLt,reduceAdd,reduceSub]
   · rw[if_neg (fun h=>c1 h.1),uT]
     obtain⟨aa,roads⟩:=m
     obtain⟨safe,bad,shut,b9⟩:=e
     simp only[ae,gV,yN]at*
     simp(disch:=omega)only[go_sem,K.fe,↓reduceIte,ot,c1,reduceAdd,reduceSub]
 · generalize CW nvr (uR e) (AF m e p m.roads.length) (L,c)=S at*
   obtain⟨aa,roads⟩:=m
   obtain⟨safe,bad,shut,b9⟩:=e
   simp only[ae,gV,yN]at*
   simp(disch:=omega)only[go_sem,K.fe,↓reduceIte,reduceAdd,reduceSub]
theorem aeO{m:aC}(hm:m.ok){e:Esc}(he:e.ok m)(L:List Lab)(hL:C8 nvr m.aa.length L)(z0 z1 z4 z6 z7 z10 z11 z12 z13:D):
 exS aH K.uI ⟨[z0,z1,.bp 0 0,.bp 1 0,z4,.ref 2 0 m.aa.length,z6,z7,B false,I 0,z10,z11,z12,z13],yN m e L⟩=
  some (.exit 4,⟨[.und,.und,.bp 0 0,.bp 1 0,.und,.ref 2 0 m.aa.length,.und,.und,B (CW nvr (uR e) (Bj m e m.aa.length) (L,false)).2,I m.aa.length,.und,.und,.und,.und],yN m e (CW nvr (uR e) (Bj m e m.aa.length) (L,false)).1⟩):=by
 have np:=hm.np
 refine bz (fun j=>⟨[.und,.und,.bp 0 0,.bp 1 0,.und,.ref 2 0 m.aa.length,.und,.und,B (CW nvr (uR e) (Bj m e j) (L,false)).2,I j,.und,.und,.und,.und],yN m e (CW nvr (uR e) (Bj m e j) (L,false)).1⟩) m.aa.length (by simp only[go_sem,Bj,uT]) ?_ ?_ (by simp)
 · intro j hj
   rw[Bj,Ld]
   have li:=Qp (u:=uR e) (E:=Bj m e j) (fun x hx=>(CG hm e j (by omega) x hx).1) (s:=(L,false)) hL
   generalize hM:CW nvr (uR e) (Bj m e j) (L,false)=S at*
   obtain⟨M,d⟩:=S
   clear hM
   simp only at li ⊢
   have sf:=sN hm (e:=e) (by have:=he.sl hm;omega) j hj
   have l4:=aeN hm he j hj M li d
   have ml:=li.l
   unfold agT
   generalize sfF m e j=c at*
   cases c with
   | true=>
     rw[if_pos rfl,uT]
     clear l4
     obtain⟨aa,roads⟩:=m
     obtain⟨safe,bad,shut,b9⟩:=e
     simp only[ae,gV,yN]at*
     simp(disch:=omega)only[go_sem,K.lr,↓reduceIte,sf,reduceAdd,reduceSub]
   | false=>
     rw[if_neg (by simp)]
     have lf:=Qp (u:=uR e) (E:=AF m e j m.roads.length) (fun x hx=>(E5 hm e hj _ (aLs _) x hx).1) (s:=(M,d)) li
     have fl:=lf.l
     generalize CW nvr (uR e) (AF m e j m.roads.length) (M,d)=Q at*
     obtain⟨Q1,Q2⟩:=Q
     obtain⟨aa,roads⟩:=m
     obtain⟨safe,bad,shut,b9⟩:=e
     simp only[ae,gV,yN]at*
     simp(disch:=omega)only[go_sem,K.lr,↓reduceIte,sf,l4,reduceAdd,reduceSub]
 · generalize CW nvr (uR e) (Bj m e m.aa.length) (L,false)=S at*
   obtain⟨aa,roads⟩:=m
   obtain⟨safe,bad,shut,b9⟩:=e
   simp only[ae,gV,yN]at*
   simp(disch:=omega)only[go_sem,K.lr,↓reduceIte,reduceAdd,reduceSub]
theorem VU(m:aC)(e:Esc)(n:Nat):C8 nvr n (FO m e n) where
 l:=Bk m e n
 t0:=fun p hp=>by rw[vC m e hp];unfold RY;split<;>simp
 t1:=fun p hp=>by rw[vC m e hp];unfold RY;split<;>simp
 r0:=fun p hp=>by rw[vC m e hp];unfold RY;split<;>simp
 r1:=fun p hp=>by rw[vC m e hp];unfold RY;split<;>simp
def y0(m:aC)(e:Esc):List Lab:=La nvr (uR e) (Bj m e m.aa.length) (FO m e m.aa.length)
theorem aeP{m:aC}(hm:m.ok){e:Esc}(he:e.ok m)(z0 z1 z4 z6 z7 z9 z10 z11 z12 z13:D):
 exS aH K.uJ ⟨[z0,z1,.bp 0 0,.bp 1 0,z4,.ref 2 0 m.aa.length,z6,z7,B true,z9,z10,z11,z12,z13],yN m e (FO m e m.aa.length)⟩=
  some (.exit 2,⟨[.und,.und,.bp 0 0,.bp 1 0,.und,.ref 2 0 m.aa.length,.und,.und,B false,.und,.und,.und,.und,.und],yN m e (y0 m e)⟩):=by
 have ek:=CG hm e m.aa.length (aLs _)
 refine(zo (fun L c=>⟨[.und,.und,.bp 0 0,.bp 1 0,.und,.ref 2 0 m.aa.length,.und,.und,B c,.und,.und,.und,.und,.und],yN m e L⟩)
  (fun L=>(.exit 2,⟨[.und,.und,.bp 0 0,.bp 1 0,.und,.ref 2 0 m.aa.length,.und,.und,B false,.und,.und,.und,.und,.und],yN m e L⟩))
  (fun L=>sD nvr (uR e) (Bj m e m.aa.length) L false (Bj m e m.aa.length).length) (C8 nvr m.aa.length) (RS nvr) ?_ ?_ ?_ _ (VU m e _) (by simp only[go_sem])).1
 · intro L hL
   have h:=Aw (fun x hx=>(ek x hx).1) hL (u:=uR e) (Bj m e m.aa.length).length (aLs _)
   exact⟨h.1,h.2.2.1⟩
 · intro L hL
   have l3:=aeO hm he L hL
   have ln:=hL.l
   have h:=(Aw (fun x hx=>(ek x hx).1) hL (u:=uR e) (Bj m e m.aa.length).length (aLs _)).1.l
   unfold CW at l3
   generalize sD nvr (uR e) (Bj m e m.aa.length) L false (Bj m e m.aa.length).length=Q at*
   obtain⟨aa,roads⟩:=m
   obtain⟨safe,bad,shut,b9⟩:=e
   simp only[ae,gV,yN]at*
   simp(disch:=omega)only[go_sem,K.nX,↓reduceIte,l3,reduceAdd,reduceSub]
 · intro L hL
   refine⟨?_,by simp⟩
   obtain⟨aa,roads⟩:=m
   obtain⟨safe,bad,shut,b9⟩:=e
   simp only[ae,gV,yN]at*
   simp(disch:=omega)only[go_sem,K.nX,↓reduceIte,reduceAdd,reduceSub]
theorem Li{m:aC}(hm:m.ok){e:Esc}:K9 nvr m.aa.length (Bj m e m.aa.length) (uR e) (zR m e) (y0 m e):=by
 have ek:=CG hm e m.aa.length (aLs _)
 refine Lb (fun x hx=>(ek x hx).1) (fun x hx _=>by unfold zR;rw[(ek x hx).2];rfl) ⟨VU m e _,?_,?_⟩
 · intro p hp hz
   rw[vC m e hp]
   unfold RY
   rw[if_pos hz]
 · intro p hp hf
   left
   rw[vC m e hp]at hf
   unfold RY at hf
   split at hf
   · assumption
   · simp at hf
theorem QK{m:aC}(hm:m.ok){e:Esc}(he:e.ok m):aH 0 N.gN [.t m.e,.t e.e] []=some (.t (.sl ((y0 m e).map Lab.e)),[]):=by
 refine av K.qy rfl ?_
 have l1:=aeM hm he
 have l2:=aeP hm he
 have ln:=(Li hm (e:=e)).l
 generalize y0 m e=L at*
 generalize FO m e m.aa.length=L0 at*
 obtain⟨aa,roads⟩:=m
 obtain⟨safe,bad,shut,b9⟩:=e
 simp only[ae,gV,yN,MR,List.map_nil]at*
 simp(disch:=omega)only[go_sem,K.gN,↓reduceIte,l1,l2,reduceAdd,reduceSub]
theorem T2{m:aC}(hm:m.ok)(e:Esc){k:Nat}(hk:k<m.roads.length)(p:Nat):(zK m e k).filter (fun x=>decide (x.a=p))=VT m e p k:=by
 obtain⟨f0,f1,t0,t1,ne, -, -, -, -, -, -, -, -, -, -⟩:=hm.rs _ (ai hk)
 unfold zK VT jm
 by_cases c:(k:Int)∈e.shut
 · rw[if_pos c,if_neg (fun h=>h.2 c)];rfl
 · rw[if_neg c,List.filter_append]
   by_cases a1:(nth m.roads k).frm=p
   · have a2:¬(nth m.roads k).to=p:=fun h=>ne (by rw[a1,h])
     have b1:(nth m.roads k).frm.toNat=p:=by omega
     have b2:¬(nth m.roads k).to.toNat=p:=by omega
     rw[if_pos a1]
     have e2:(if 0≤kt m k true then [(⟨k,(nth m.roads k).to.toNat,(nth m.roads k).frm.toNat,kt m k true⟩:Edge)]else []).filter (fun x=>decide (x.a=p))=[]:=by
      split
      · simp[b2]
      · rfl
     rw[e2,List.append_nil]
     by_cases s:0≤kt m k false
     · rw[if_pos s,if_pos ⟨s,c⟩];simp[b1]
     · rw[if_neg s,if_neg (fun h=>s h.1)];rfl
   · have b1:¬(nth m.roads k).frm.toNat=p:=by omega
     rw[if_neg a1]
     have e2:(if 0≤kt m k false then [(⟨k,(nth m.roads k).frm.toNat,(nth m.roads k).to.toNat,kt m k false⟩:Edge)]else []).filter (fun x=>decide (x.a=p))=[]:=by
      split
      · simp[b1]
      · rfl
     rw[e2,List.nil_append]
     by_cases a2:(nth m.roads k).to=p
     · have b2:(nth m.roads k).to.toNat=p:=by omega
       rw[if_pos a2]
       by_cases s:0≤kt m k true
       · rw[if_pos s,if_pos ⟨s,c⟩];simp[b2]
       · rw[if_neg s,if_neg (fun h=>s h.1)];rfl
     · have b2:¬(nth m.roads k).to.toNat=p:=by omega
       rw[if_neg a2]
       split<;>simp[b2]
theorem Hv{m:aC}(hm:m.ok)(e:Esc)(p:Nat):∀j,j≤m.roads.length→(mL m e j).filter (fun x=>decide (x.a=p))=AF m e p j
 | 0,_=>rfl
 | j+1,hj=>by
   rw[mL,List.filter_append,Hv hm e p j (by omega),T2 hm e (by omega) p]
   rfl
theorem Lj{m:aC}(hm:m.ok)(e:Esc)(p:Nat):(dH m e).filter (fun x=>decide (x.a=p))=AF m e p m.roads.length:=Hv hm e p _ (aLs _)
theorem E6(m:aC)(e:Esc)(x:Edge):∀n,x∈Bj m e n↔∃p,p<n∧sfF m e p=false∧x∈AF m e p m.roads.length
 | 0=>by simp[Bj]
 | n+1=>by
   rw[Bj,List.mem_append,E6 m e x n]
   unfold agT
   constructor
   · rintro (⟨p,h1,h2,h3⟩ | h)
     · exact⟨p,by omega,h2,h3⟩
     · split at h
       · cases h
       · rename_i hc
         exact⟨n,by omega,by simpa using hc,h⟩
   · rintro ⟨p,h1,h2,h3⟩
     by_cases c:p=n
     · subst c
       right
       rw[if_neg (by simp[h2])]
       exact h3
     · exact .inl ⟨p,by omega,h2,h3⟩
theorem yO{m:aC}(hm:m.ok)(e:Esc)(p:Nat)(x:Edge):x∈AF m e p m.roads.length↔x∈dH m e∧x.a=p:=by
 rw[← Lj hm e p,List.mem_filter,decide_eq_true_eq]
def ab5(m:aC)(e:Esc)(p:Nat):Prop:=¬(sfF m e p=true∧bdF e p=true)
theorem Hw{m:aC}(hm:m.ok){e:Esc}(he:e.ok m):∀p,p<m.aa.length→ab5 m e p→
 ((nth (iH (dH m e) (sfL m e) (bdL m e) m.aa.length) p).t<j5↔(nth (y0 m e) p).t<nvr)∧((nth (iH (dH m e) (sfL m e) (bdL m e) m.aa.length) p).t<j5→nth (iH (dH m e) (sfL m e) (bdL m e) m.aa.length) p=nth (y0 m e) p):=by
 have np:=hm.np
 refine aeE (zI (cN hm e)) (Li hm (e:=e)) (cN hm e) (fun x hx=>(CG hm e _ (aLs _) x hx).1) (ab5 m e) ?_ ?_ ?_ ?_ ?_ (by show _<(1152921504606846976:Int);omega) (by show _<(1099511627776:Int);omega)
 · intro x hx hu
   have xo:=cN hm e x hx
   unfold uB at hu
   rw[px he xo.1,xx he xo.2.1]at hu
   simp only[aLr,Bool.not_eq_true']at hu
   refine⟨x,(E6 m e x _).2 ⟨x.a,xo.1,hu.1,(yO hm e x.a x).2 ⟨hx,rfl⟩⟩,?_,rfl,rfl,rfl⟩
   unfold uR
   rw[hu.2]
   rfl
 · intro x hx hu
   obtain⟨p,h1,h2,h3⟩:=(E6 m e x _).1 hx
   obtain⟨h4,h5⟩:=(yO hm e p x).1 h3
   have xo:=cN hm e x h4
   refine⟨x,h4,?_,rfl,rfl,rfl⟩
   unfold uB
   unfold uR at hu
   rw[px he xo.1,xx he xo.2.1,h5,h2]
   simpa using hu
 · intro p hp hr
   unfold zR qB
   rw[px he hp]
   unfold ab5 at hr
   cases h1:sfF m e p<;>cases h2:bdF e p<;>simp_all
 · intro x hx hu
   have xo:=cN hm e x hx
   unfold uB at hu
   rw[xx he xo.2.1]at hu
   simp only[aLr,Bool.not_eq_true']at hu
   intro h
   rw[hu.2]at h
   exact absurd h.2 (by simp)
 · intro x hx hu
   unfold uR at hu
   intro h
   rw[h.2]at hu
   exact absurd hu (by simp)
def pz(m:aC)(p j:Nat):Edge:=⟨j,p,(jm m j p).1.toNat,(jm m j p).2⟩
def M3(m:aC)(e:Esc)(L:List Lab)(p j:Nat):Bool:=
 decide (0≤(jm m j p).2∧(j:Int)∉e.shut)&&(uR e (pz m p j)&&decide ((nth L (pz m p j).b).t<nvr)&&decide ((nth L (pz m p j).b).t+(pz m p j).t=(nth L p).t∧(nth L (pz m p j).b).r+1=(nth L p).r))
def Lk(m:aC)(e:Esc)(L:List Lab)(p:Nat):Option Nat:=(List.range m.roads.length).find? (M3 m e L p)
theorem Hx(m:aC)(e:Esc)(p:Nat)(Q:Edge→Bool):∀j,(AF m e p j).find? Q=((List.range j).find? (fun i=>decide (0≤(jm m i p).2∧(i:Int)∉e.shut)&&Q (pz m p i))).map (pz m p)
 | 0=>rfl
 | j+1=>by
   rw[AF,List.find?_append,Hx m e p Q j,List.range_succ,List.find?_append]
   cases (List.range j).find? (fun i=>decide (0≤(jm m i p).2∧(i:Int)∉e.shut)&&Q (pz m p i))with
   | some i=>rfl
   | none=>
     simp only[Option.map_none,Option.none_or]
     unfold VT
     by_cases c:0≤(jm m j p).2∧(j:Int)∉e.shut
     · rw[if_pos c]
       show List.find? Q [pz m p j]=_
       cases hq:Q (pz m p j)<;>simp[hq,c]
     · rw[if_neg c]
       simp[c]
theorem Hy(u:Edge→Bool)(E:List Edge)(L:List Lab)(p:Nat):Hm u E L p=(E.filter (fun x=>decide (x.a=p))).find? (uC u L p):=by
 unfold Hm
 rw[List.find?_filter]
 congr 1
 funext x
 unfold uC
 cases decide (x.a=p)<;>simp
theorem CH{α:Type}{p q:α→Bool}:∀ {l:List α},(∀x∈l,p x=q x)→l.find? p=l.find? q
 | [],_=>rfl
 | x::l,h=>by
   simp only[List.find?_cons,h x (by simp)]
   rw[CH (l:=l) fun y hy=>h y (by simp[hy])]
theorem M4{m:aC}(hm:m.ok){e:Esc}(he:e.ok m){p:Nat}(hp:p<m.aa.length)(hz:sfF m e p=false)(hf:(nth (iH (dH m e) (sfL m e) (bdL m e) m.aa.length) p).t<j5):
 Hm (uB (sfL m e) (bdL m e)) (dH m e) (iH (dH m e) (sfL m e) (bdL m e) m.aa.length) p=(Lk m e (y0 m e) p).map (pz m p):=by
 have rp:ab5 m e p:=fun h=>by rw[hz]at h;exact absurd h.1 (by simp)
 have le:=Hw hm he
 have lp:=(le p hp rp).2 hf
 have z1:=zI (sf:=sfL m e) (bd:=bdL m e) (cN hm e)
 have tm:=z1.time (cN hm e) hp hf
 have np:=hm.np
 rw[Hy,Lj hm e p,Hx]
 unfold Lk
 congr 1
 refine CH fun j hj=>?_
 have hj:=aLu.1 hj
 unfold M3
 by_cases c:0≤(jm m j p).2∧(j:Int)∉e.shut
 · rw[decide_eq_true c,Bool.true_and,Bool.true_and]
   have oo:=vD hm hj hp c.1
   have eb:(pz m p j).b<m.aa.length:=by unfold pz;simp only;omega
   have ea:(pz m p j).a=p:=rfl
   have et:1≤(pz m p j).t:=oo.2.2.1
   generalize pz m p j=x at*
   unfold uC uB
   rw[ea,decide_eq_true rfl,Bool.true_and,px he hp,hz,Bool.not_false,Bool.true_and,xx he eb]
   unfold uR
   cases hb:bdF e x.b with
   | true=>rfl
   | false=>
     rw[Bool.not_false,Bool.true_and,Bool.true_and]
     have rb:ab5 m e x.b:=fun h=>by rw[hb]at h;exact absurd h.2 (by simp)
     obtain⟨l1,l2⟩:=le x.b eb rb
     rw[← lp]
     generalize nth (iH (dH m e) (sfL m e) (bdL m e) m.aa.length) p=y at*
     have nb:nth (y0 m e) x.b=nth (y0 m e) x.b:=rfl
     generalize nth (iH (dH m e) (sfL m e) (bdL m e) m.aa.length) x.b=w at*
     generalize nth (y0 m e) x.b=v at*
     obtain⟨yt,yr⟩:=y
     obtain⟨wt,wr⟩:=w
     obtain⟨vt,vr⟩:=v
     simp only[Lab.mk.injEq]at*
     have fc:j5=1152921504606846976:=rfl
     rw[← Bool.decide_and]
     refine decide_eq_decide.2 ⟨fun h=>?_,fun h=>?_⟩
     · have hw:wt<j5:=by omega
       have:=l2 hw
       have:=l1.1 hw
       omega
     · have hw:wt<j5:=l1.2 h.1
       have:=l2 hw
       omega
 · rw[decide_eq_false c,Bool.false_and,Bool.false_and]
abbrev rbH(m:aC)(e:Esc)(W:List Int):aq:=[.box (ae m),.box (gV e),pT W]
theorem ajf{m:aC}(hm:m.ok){e:Esc}(he:e.ok m)(L:List Lab)(hL:C8 nvr m.aa.length L)(p0 p:Nat)(hp:p<m.aa.length)(W:List Int)(hW:W.length≤100000000)(J:Nat)(hJ:Lk m e L p=some J)(z0 z1 z5 z6 z7 z12 z13:D):
 ∃x y,exS aH K.yI ⟨[z0,z1,I p0,.bp 0 0,.bp 1 0,z5,z6,z7,.t (.sl (L.map Lab.e)),.ref 2 0 W.length,I p,I 0,z12,z13],rbH m e W⟩=
  some (.exit 2,⟨[.und,.und,I p0,.bp 0 0,.bp 1 0,.und,.und,.und,.t (.sl (L.map Lab.e)),.ref 2 0 (W.length+1),I (pz m p J).b,I J,x,y],rbH m e (W++[(J:Int)])⟩):=by
 have np:=hm.np
 have nr:=hm.nr
 have ml:=hL.l
 have J1:J<m.roads.length:=aLu.1 (List.mem_of_find?_eq_some hJ)
 have J2:M3 m e L p J=true:=List.find?_some hJ
 have J3:∀j,j<J→M3 m e L p j=false:=fun j hj=>by
  have:=(List.find?_range_eq_some.1 hJ).2.2 j hj
  simpa using this
 have key:=Bf (vs:=[z0,z1,I p0,.bp 0 0,.bp 1 0,z5,z6,z7,.t (.sl (L.map Lab.e)),.ref 2 0 W.length,I p,I 0,z12,z13]) (H:=rbH m e W) (c:=K.fV) (gc:=true) (dead:=[0,1,5,6,7,12,13])
  (fun j st=>st=⟨[.und,.und,I p0,.bp 0 0,.bp 1 0,.und,.und,.und,.t (.sl (L.map Lab.e)),.ref 2 0 W.length,I p,I j,.und,.und],rbH m e W⟩) J
  (fun q=>∃x y,q=(.exit 2,⟨[.und,.und,I p0,.bp 0 0,.bp 1 0,.und,.und,.und,.t (.sl (L.map Lab.e)),.ref 2 0 (W.length+1),I (pz m p J).b,I J,x,y],rbH m e (W++[(J:Int)])⟩)) (by simp only[go_sem]) ?_ ?_
 · obtain⟨q,h1,x,y,rfl⟩:=key
   exact⟨x,y,h1⟩
 · rintro j st hj rfl
   refine⟨_,?_,rfl⟩
   have hc:=J3 j hj
   have hj:j<m.roads.length:=by omega
   have ot:=uQ hm j hj p hp
   have oo:=vD hm hj hp
   have hh:=mO e.shut j (by have:=he.hl hm;omega)
   unfold M3 pz uR bdF at hc
   generalize jm m j p=o at*
   obtain⟨q,t⟩:=o
   simp only at*
   have hb:=mO e.bad q (by have:=he.bl hm;omega)
   have nv:nvr=1099511627776:=rfl
   by_cases c1:0≤t
   · obtain⟨q0,q1,t1,t2⟩:=oo c1
     obtain⟨k,rfl⟩:=Int.eq_ofNat_of_zero_le q0
     by_cases c2:(j:Int)∈e.shut
     · rw[decide_eq_true c2]at hh
       clear hc oo
       obtain⟨aa,roads⟩:=m
       obtain⟨safe,bad,shut,b9⟩:=e
       simp only[ae,gV,rbH]at*
       simp(disch:=omega)only[go_sem,K.fV,↓reduceIte,ot,hh,c1,reduceAdd,reduceSub]
     · rw[decide_eq_false c2]at hh
       have hk:k<m.aa.length:=by omega
       have q1:=hL.t0 k hk
       have q2:=hL.t1 k hk
       have q3:=hL.r0 k hk
       have q4:=hL.r1 k hk
       rw[decide_eq_true (⟨c1,c2⟩:0≤t∧(j:Int)∉e.shut),Bool.true_and,Int.toNat_natCast]at hc
       generalize hx:nth L p=x at*
       generalize hy:nth L k=y at*
       obtain⟨xt,xr⟩:=x
       obtain⟨yt,yr⟩:=y
       simp only at*
       by_cases c3:(k:Int)∈e.bad
       · rw[decide_eq_true c3]at hb
         clear hc oo
         obtain⟨aa,roads⟩:=m
         obtain⟨safe,bad,shut,b9⟩:=e
         simp only[ae,gV,rbH]at*
         simp(disch:=omega)only[go_sem,K.fV,↓reduceIte,ot,hh,hb,c1,reduceAdd,reduceSub]
       · rw[decide_eq_false c3]at hb hc
         simp only[Bool.not_false,Bool.true_and,Bool.and_eq_false_iff,decide_eq_false_iff_not]at hc
         obtain⟨aa,roads⟩:=m
         obtain⟨safe,bad,shut,b9⟩:=e
         simp only[ae,gV,rbH]at*
         by_cases c4:yt<1099511627776
         · by_cases c5:yt+t=xt
           · have c6:¬yr+1=xr:=by
              intro h
              rcases hc with hc | hc
              · exact hc c4
              · exact hc ⟨c5,h⟩
             simp(disch:=omega)only[go_sem,K.fV,↓reduceIte,ot,hh,hb,c1,c4,c5,c6,hx,hy,decide_true,decide_false,reduceAdd,reduceSub]
           · simp(disch:=omega)only[go_sem,K.fV,↓reduceIte,ot,hh,hb,c1,c4,c5,hx,hy,decide_true,decide_false,reduceAdd,reduceSub]
         · simp(disch:=omega)only[go_sem,K.fV,↓reduceIte,ot,hh,hb,c1,c4,hx,hy,reduceAdd,reduceSub]
   · clear hc oo
     obtain⟨aa,roads⟩:=m
     obtain⟨safe,bad,shut,b9⟩:=e
     simp only[ae,gV,rbH]at*
     simp(disch:=omega)only[go_sem,K.fV,↓reduceIte,ot,c1,reduceAdd,reduceSub]
 · rintro st rfl
   refine⟨_,?_,by simp,I (pz m p J).b,I (pz m p J).t,rfl⟩
   have ot:=uQ hm J J1 p hp
   have oo:=vD hm J1 hp
   have hh:=mO e.shut J (by have:=he.hl hm;omega)
   have nv:nvr=1099511627776:=rfl
   unfold M3 pz uR bdF at J2
   unfold pz
   generalize jm m J p=o at*
   obtain⟨q,t⟩:=o
   simp only at*
   have hb:=mO e.bad q (by have:=he.bl hm;omega)
   simp only[aLr,decide_eq_true_eq,Bool.not_eq_true',decide_eq_false_iff_not]at J2
   obtain⟨⟨c1,c2⟩,⟨c3,c4⟩,c5,c6⟩:=J2
   obtain⟨q0,q1,t1,t2⟩:=oo c1
   obtain⟨k,rfl⟩:=Int.eq_ofNat_of_zero_le q0
   have hk:k<m.aa.length:=by omega
   have q1:=hL.t0 k hk
   have q2:=hL.t1 k hk
   have q3:=hL.r0 k hk
   have q4:=hL.r1 k hk
   rw[Int.toNat_natCast]at*
   rw[decide_eq_false c2]at hh
   rw[decide_eq_false c3]at hb
   generalize hx:nth L p=x at*
   generalize hy:nth L k=y at*
   obtain⟨xt,xr⟩:=x
   obtain⟨yt,yr⟩:=y
   simp only at*
   have c4:yt<1099511627776:=c4
   clear J3 oo
   obtain⟨aa,roads⟩:=m
   obtain⟨safe,bad,shut,b9⟩:=e
   simp only[ae,gV,rbH]at*
   simp(disch:=omega)only[go_sem,K.fV,↓reduceIte,ot,hh,hb,c1,c4,c5,c6,hx,hy,decide_true,reduceAdd,reduceSub]
   simp only[pT,List.map_append,List.map_cons,List.map_nil]
abbrev rbV(p0:Nat)(L:List Lab)(W:List Int)(p:Nat):List D:=[.und,.und,I p0,.bp 0 0,.bp 1 0,.und,.und,.und,.t (.sl (L.map Lab.e)),.ref 2 0 W.length,I p,.und,.und,.und]
theorem ZD{m:aC}(hm:m.ok){e:Esc}(he:e.ok m)(p0:Nat):∀(k p:Nat) (W:List Int),p<m.aa.length→(nth (iH (dH m e) (sfL m e) (bdL m e) m.aa.length) p).t<j5→
 (nth (iH (dH m e) (sfL m e) (bdL m e) m.aa.length) p).r.toNat≤k→W.length+k≤100000000→
 ∃q:Nat,nj true [0,1,5,6,7,11,12,13] (exS aH K.jO) ⟨rbV p0 (y0 m e) W p,rbH m e W⟩=
  some (.exit 0,⟨rbV p0 (y0 m e) (W++nD (lW (qB (sfL m e)) (uB (sfL m e) (bdL m e)) (dH m e) (iH (dH m e) (sfL m e) (bdL m e) m.aa.length) k p)) q,
   rbH m e (W++nD (lW (qB (sfL m e)) (uB (sfL m e) (bdL m e)) (dH m e) (iH (dH m e) (sfL m e) (bdL m e) m.aa.length) k p))⟩):=by
 have hZ:=zI (sf:=sfL m e) (bd:=bdL m e) (cN hm e)
 have hL:=(Li hm (e:=e)).toC8
 have done:∀(p:Nat) (W:List Int),p<m.aa.length→sfF m e p=true→nj true [0,1,5,6,7,11,12,13] (exS aH K.jO) ⟨rbV p0 (y0 m e) W p,rbH m e W⟩=some (.exit 0,⟨rbV p0 (y0 m e) W p,rbH m e W⟩):=by
  intro p W hp hz
  refine dW ?_ (by simp)
  have sf:=sN hm (e:=e) (by have:=he.sl hm;omega) p hp
  rw[hz]at sf
  generalize y0 m e=L at*
  obtain⟨aa,roads⟩:=m
  obtain⟨safe,bad,shut,b9⟩:=e
  simp only[ae,gV,rbH,rbV]at*
  simp(disch:=omega)only[go_sem,K.jO,↓reduceIte,sf,Bool.not_true,reduceAdd,reduceSub]
 intro k
 induction k with
 | zero=>
   intro p W hp hf hk hW
   have hz:nth (sfL m e) p=true:=by
    by_cases hz:nth (sfL m e) p=true
    · exact hz
    · obtain⟨x,_,e1,_,_,_,_,e5⟩:=oJ hZ (cN hm e) hp hf (by simpa using hz)
      have:=hZ.r0 x.b (cN hm e x e1).2.1
      have:=hZ.r0 p hp
      omega
   refine⟨p,?_⟩
   simp only[lW,nD,List.map_nil,List.append_nil]
   exact done p W hp (by rw[← px he hp];exact hz)
 | succ k ih=>
   intro p W hp hf hk hW
   by_cases hz:nth (sfL m e) p=true
   · refine⟨p,?_⟩
     have:lW (qB (sfL m e)) (uB (sfL m e) (bdL m e)) (dH m e) (iH (dH m e) (sfL m e) (bdL m e) m.aa.length) (k+1) p=[]:=by unfold lW;rw[if_pos hz]
     rw[this]
     simp only[nD,List.map_nil,List.append_nil]
     exact done p W hp (by rw[← px he hp];exact hz)
   · obtain⟨x,e0,e1,e2,e3,e4,e5,e6⟩:=oJ hZ (cN hm e) hp hf (by simpa using hz)
     have hz2:sfF m e p=false:=by rw[← px he hp];simpa using hz
     have br:=hZ.r0 x.b (cN hm e x e1).2.1
     have sfst:=M4 hm he hp hz2 hf
     rw[e0]at sfst
     cases hJ:Lk m e (y0 m e) p with
     | none=>rw[hJ]at sfst;cases sfst
     | some J=>
       rw[hJ]at sfst
       simp only[aLw,Option.some.injEq]at sfst
       have l2:=ajf hm he (y0 m e) hL p0 p hp W (by omega) J hJ .und .und .und .und .und .und .und
       have xr:x.r=J:=by rw[sfst];rfl
       obtain⟨q,h⟩:=ih x.b (W++[(x.r:Int)]) (cN hm e x e1).2.1 e4 (by omega) (by simp;omega)
       refine⟨q,?_⟩
       have pe:lW (qB (sfL m e)) (uB (sfL m e) (bdL m e)) (dH m e) (iH (dH m e) (sfL m e) (bdL m e) m.aa.length) (k+1) p=x::lW (qB (sfL m e)) (uB (sfL m e) (bdL m e)) (dH m e) (iH (dH m e) (sfL m e) (bdL m e) m.aa.length) k x.b:=by
        conv=>lhs;unfold lW
        rw[if_neg hz,e0]
       have rd:gp true [0,1,5,6,7,11,12,13] (rbH m e W).length (exS aH K.jO ⟨rbV p0 (y0 m e) W p,rbH m e W⟩)=some ⟨rbV p0 (y0 m e) (W++[(x.r:Int)]) x.b,rbH m e (W++[(x.r:Int)])⟩:=by
        have sf:=sN hm (e:=e) (by have:=he.sl hm;omega) p hp
        rw[hz2]at sf
        rw[← sfst,←xr]at l2
        clear ih h pe sfst
        obtain⟨z1,z2,l2⟩:=l2
        generalize y0 m e=L at*
        generalize x.r=r at*
        generalize x.b=b at*
        have wl:(W++[(r:Int)]).length=W.length+1:=by simp
        generalize W++[(r:Int)]=W2 at*
        obtain⟨aa,roads⟩:=m
        obtain⟨safe,bad,shut,b9⟩:=e
        simp only[ae,gV,rbH,rbV]at*
        simp(disch:=omega)only[go_sem,K.jO,↓reduceIte,sf,Bool.not_false,l2,reduceAdd,reduceSub]
        rw[wl]
       simpa only[pe,nD,List.map_cons,List.append_assoc,List.cons_append,List.nil_append]using fC rd h
def Ll(m:aC)(e:Esc)(p:Nat):D:=
 if sfF m e p=true then .tup [.t (tL []),I 0,B true]
 else if c1E m e p<j5 then .tup [.t (tL (nD (w1E m e p))),I (c1E m e p),B true]else .tup [.t (tL []),I 0,B false]
theorem Lm{m:aC}(hm:m.ok){e:Esc}(he:e.ok m)(p:Nat)(hp:p<m.aa.length):aH 0 N.gx [.t m.e,.t e.e,I p] []=some (Ll m e p,[]):=by
 refine av K.uK rfl ?_
 have np:=hm.np
 have vd:=Lg hm he
 have sf:=sN hm (e:=e) (by have:=he.sl hm;omega) p hp
 have lb:=QK hm he
 have lz:=Li hm (e:=e)
 have ml:=lz.l
 have e1:((y0 m e).map Lab.e)[p]?=some (nth (y0 m e) p).e:=bR _ (by omega)
 unfold Ll
 cases hz:sfF m e p with
 | true=>
   rw[if_pos rfl]
   rw[hz]at sf
   clear lb lz e1 ml
   obtain⟨aa,roads⟩:=m
   obtain⟨safe,bad,shut,b9⟩:=e
   simp only[ae,gV,tL,List.map_nil]at*
   simp(disch:=omega)only[go_sem,K.gx,↓reduceIte,vd,sf,Bool.not_true,reduceAdd,reduceSub]
 | false=>
   rw[if_neg (by simp)]
   rw[hz]at sf
   have rp:ab5 m e p:=fun h=>by rw[hz]at h;exact absurd h.1 (by simp)
   obtain⟨le1,le2⟩:=Hw hm he p hp rp
   have e4:(nth (iH (dH m e) (sfL m e) (bdL m e) m.aa.length) p).t=c1E m e p:=rfl
   by_cases hf:c1E m e p<j5
   · rw[if_pos hf]
     have cl:=sO (sf:=sfL m e) (bd:=bdL m e) (cN hm e) np hp hf
     obtain⟨q,lp⟩:=ZD hm he p (nth (iH (dH m e) (sfL m e) (bdL m e) m.aa.length) p).r.toNat p [] hp hf (aLs _) (by simp;omega)
     have w1:lW (qB (sfL m e)) (uB (sfL m e) (bdL m e)) (dH m e) (iH (dH m e) (sfL m e) (bdL m e) m.aa.length) (nth (iH (dH m e) (sfL m e) (bdL m e) m.aa.length) p).r.toNat p=w1E m e p:=rfl
     rw[w1]at lp
     have eq:=le2 hf
     have e5:(nth (y0 m e) p).t=c1E m e p:=by rw[← eq];rfl
     have hf2:(nth (y0 m e) p).t<1099511627776:=le1.1 hf
     have lp2:∀z0 z1 z5 z6 z7 z11 z12 z13,exS aH K.yJ ⟨[z0,z1,I p,.bp 0 0,.bp 1 0,z5,z6,z7,.t (.sl ((y0 m e).map Lab.e)),.ref 2 0 0,I p,z11,z12,z13],rbH m e []⟩=_:=fun z0 z1 z5 z6 z7 z11 z12 z13=>ue lp
     rw[e4]at cl
     clear eq le1 le2 w1 lp lz e4 rp
     generalize nD (w1E m e p)=R at*
     generalize c1E m e p=t1 at*
     generalize y0 m e=L at*
     generalize hx:nth L p=x at*
     obtain⟨xt,xr⟩:=x
     simp only at e5 hf2 e1
     subst e5
     obtain⟨aa,roads⟩:=m
     obtain⟨safe,bad,shut,b9⟩:=e
     simp only[ae,gV,rbH,rbV]at*
     simp(disch:=omega)only[go_sem,K.gx,↓reduceIte,vd,sf,lb,e1,hf2,hx,Bool.not_true,reduceAdd,reduceSub]
     refine ig (lp2 _ _ _ _ _ _ _ _) ?_
     simp(disch:=omega)only[go_sem,K.gx,↓reduceIte,e1,hx,List.nil_append,reduceAdd,reduceSub]
   · rw[if_neg hf]
     have hf2:¬(nth (y0 m e) p).t<1099511627776:=fun h=>hf (le1.2 h)
     clear le1 le2 lz e4 rp
     generalize y0 m e=L at*
     generalize hx:nth L p=x at*
     obtain⟨xt,xr⟩:=x
     simp only at hf2 e1
     obtain⟨aa,roads⟩:=m
     obtain⟨safe,bad,shut,b9⟩:=e
     simp only[ae,gV,tL,List.map_nil]at*
     simp(disch:=omega)only[go_sem,K.gx,↓reduceIte,vd,sf,lb,e1,hf2,hx,Bool.not_true,reduceAdd,reduceSub]
end Go.Ev
namespace Go.Ev
open Go
variable [Lib]
def kN(p:Nat→Bool)(l:List Int)(j:Nat):List Int:=((List.range j).filter p).map (nth l)
theorem AG(p:Nat→Bool)(l:List Int)(j:Nat):(kN p l j).length≤j:=by
 unfold kN
 rw[List.length_map]
 have:=List.length_filter_le p (List.range j)
 rwa [List.length_range]at this
theorem uU(p:Nat→Bool)(l:List Int)(j:Nat):kN p l (j+1)=kN p l j++(if p j then [nth l j]else []):=by
 unfold kN
 rw[List.range_succ,List.filter_append,List.map_append]
 cases h:p j<;>simp[h]
def kA(p:Nat→Bool)(l:List Int)(j:Nat):List Int:=kN p l j++l.drop (kN p l j).length
theorem yP(p:Nat→Bool)(l:List Int){j:Nat}(hj:j≤l.length):(kA p l j).length=l.length:=by
 unfold kA
 have:=AG p l j
 rw[aLv,List.length_drop];omega
theorem T3{A B:List Int}{i:Nat}(h:A.length≤i):nth (A++B) i=nth B (i-A.length):=by
 unfold nth
 simp only[aLl,aLh h]
theorem QL{A:List Int}{k i:Nat}:nth (A.drop k) i=nth A (k+i):=by
 unfold nth
 simp only[aLl,List.getElem?_drop]
theorem Ln(p:Nat→Bool)(l:List Int)(j:Nat){i:Nat}(hi:(kN p l j).length≤i):nth (kA p l j) i=nth l i:=by
 unfold kA
 rw[T3 hi,QL]
 congr 1
 omega
theorem E7{l:List Int}{k:Nat}(h:k<l.length):l.drop k=nth l k::l.drop (k+1):=by
 rw[List.drop_eq_getElem_cons h]
 congr 1
 have:=c7 h
 rw[aLc h]at this
 exact Option.some.inj this
theorem QN(p:Nat→Bool)(l:List Int){j:Nat}(hj:j<l.length)(h:p j=true):(kA p l j).set (kN p l j).length (nth l j)=kA p l (j+1):=by
 unfold kA
 have dl:=AG p l j
 rw[uU p l j,if_pos h,List.set_append_right _ _ (aLs _),Nat.sub_self,aLv,List.length_singleton,List.append_assoc]
 congr 1
 rw[E7 (show(kN p l j).length<l.length by omega)]
 rfl
theorem E8(p:Nat→Bool)(l:List Int){j:Nat}(h:p j=false):kN p l (j+1)=kN p l j∧kA p l (j+1)=kA p l j:=by
 have:kN p l (j+1)=kN p l j:=by rw[uU p l j,h];simp
 unfold kA
 rw[this]
 exact⟨rfl,rfl⟩
theorem QO(p:Nat→Bool)(l:List Int):∀ {j:Nat},j≤l.length→(∀i,i<j→p i=true)→kN p l j=l.take j
 | 0,_,_=>rfl
 | j+1,hj,h=>by
   rw[uU,if_pos (h j (by omega)),QO p l (by omega) (fun i hi=>h i (by omega)),List.take_succ,c7 (by omega)]
   rfl
theorem E9(p:Nat→Bool)(l:List Int){i:Nat}(hi:i<l.length)(h:∀k,k<i→p k=true)(hp:p i=false):kA p l (i+1)=l∧(kN p l (i+1)).length=i:=by
 have e:kN p l (i+1)=l.take i:=by
  rw[(E8 p l hp).1,QO p l (by omega) h]
 constructor
 · unfold kA
   rw[e,List.length_take,Nat.min_eq_left (by omega),List.take_append_drop]
 · rw[e,List.length_take];omega
theorem aeQ(p:Nat→Bool)(l:List Int)(j:Nat)(x:Int):x∈kN p l j↔∃i,i<j∧p i=true∧nth l i=x:=by
 unfold kN
 rw[List.mem_map]
 constructor
 · rintro ⟨i,hi,rfl⟩
   rw[List.mem_filter,aLu]at hi
   exact⟨i,hi.1,hi.2,rfl⟩
 · rintro ⟨i,h1,h2,rfl⟩
   exact⟨i,List.mem_filter.2 ⟨aLu.2 h1,h2⟩,rfl⟩
theorem Hz(q:Int→Bool)(l:List Int):kN (fun i=>q (nth l i)) l l.length=l.filter q:=by
 have key:∀j,j≤l.length→kN (fun i=>q (nth l i)) l j=(l.take j).filter q:=by
  intro j
  induction j with
  | zero=>intro _;rfl
  | succ j ih=>
    intro hj
    rw[uU,ih (by omega),List.take_succ,c7 (by omega),List.filter_append]
    simp only[Option.toList_some]
    cases h:q (nth l j)<;>simp[h]
 rw[key _ (aLs _),List.take_length]
def ik(l:List Int)(i:Nat):Bool:=decide (i=0)||decide (nth l i≠nth l (i-1))
def CI(l:List Int):List Int:=kN (ik l) l l.length
theorem T4{l:List Int}(h:l.Pairwise (· ≤ ·))(x:Int):x∈CI l↔x∈l:=by
 unfold CI
 rw[aeQ]
 constructor
 · rintro ⟨i,h1,_,rfl⟩;exact ai h1
 · intro hx
   obtain⟨j,hj⟩:=aLf.1 hx
   have jl:=(aLe.1 hj).1
   have key:∀j,j<l.length→∃i,i<l.length∧ik l i=true∧nth l i=nth l j:=by
    intro j
    induction j with
    | zero=>intro h0;exact⟨0,h0,by simp[ik],rfl⟩
    | succ j ih=>
      intro hj
      by_cases c:nth l (j+1)=nth l j
      · obtain⟨i,h1,h2,h3⟩:=ih (by omega)
        exact⟨i,h1,h2,by rw[h3,c]⟩
      · exact⟨j+1,hj,by unfold ik;simp[c],rfl⟩
   obtain⟨i,h1,h2,h3⟩:=key j jl
   exact⟨i,h1,h2,by rw[h3,bD hj]⟩
def QP(a b:List Int):List Int:=CI (iS (a++b))
theorem T5(a b:List Int)(x:Int):x∈QP a b↔x∈a∨x∈b:=by
 unfold QP
 rw[T4 (vu _),(kq _).mem_iff,List.mem_append]
theorem T6(a b:List Int):(QP a b).length≤a.length+b.length:=by
 unfold QP CI
 have:=AG (ik (iS (a++b))) (iS (a++b)) (iS (a++b)).length
 rw[ka,aLv]at this
 rw[ka,aLv]
 exact this
end Go.Ev
namespace Go.Ev
open Go
variable [Lib] [bX] [bJ] [fR] [fS] [iK] [fy] [fo] [gU] [fM] [cV] [cI] [fB] [eu] [jb] [iE] [gl] [eQ] [jj]
def Bl(l:List Int)(x:Int):Nat:=(l.takeWhile fun y=>decide (y<x)).length
def QQ(l:List Int)(x:Int):List Int:=if Bl l x<l.length∧nth l (Bl l x)=x then l else l.take (Bl l x)++x::l.drop (Bl l x)
theorem CJ:∀(l:List Int) (x:Int),Bl l x≤l.length∧(∀i,i<Bl l x→nth l i<x)∧(Bl l x<l.length→¬nth l (Bl l x)<x)
 | [],x=>⟨aLs _,fun i hi=>absurd hi (Nat.not_lt_zero _),fun h=>absurd h (by simp)⟩
 | y::l,x=>by
   obtain⟨a,b,c⟩:=CJ l x
   by_cases h:y<x
   · have e:Bl (y::l) x=Bl l x+1:=by unfold Bl;rw[List.takeWhile_cons,if_pos (by simpa using h)];rfl
     rw[e]
     refine⟨by simp;omega,?_,?_⟩
     · intro i hi
       cases i with
       | zero=>exact h
       | succ i=>exact b i (by omega)
     · intro hl
       exact c (by simp at hl;omega)
   · have e:Bl (y::l) x=0:=by unfold Bl;rw[List.takeWhile_cons,if_neg (by simpa using h)];rfl
     rw[e]
     exact⟨Nat.zero_le _,fun i hi=>absurd hi (Nat.not_lt_zero _),fun _=>h⟩
theorem QS(l:List Int)(x:Int)(hl:l.length≤1000000):aH 0 N.jh [.t (tL l),I x] []=some (.t (tL (QQ l x)),[]):=by
 refine av K.xq rfl ?_
 obtain⟨k1,k2,k3⟩:=CJ l x
 have loop:∀z2:D,exS aH K.Ay ⟨[.t (tL l),I x,z2,I 0],[]⟩=some (.exit 0,⟨[.t (tL l),I x,.und,I (Bl l x)],[]⟩):=by
  intro z2
  refine bz (fun j=>⟨[.t (tL l),I x,.und,I j],[]⟩) (Bl l x) rfl ?_ ?_ (by simp)
  · intro j hj
    have:=k2 j hj
    simp(disch:=omega)only[go_sem,K.oA,↓reduceIte,reduceAdd,reduceSub]
  · by_cases c:Bl l x<l.length
    · have:=k3 c
      simp(disch:=omega)only[go_sem,K.oA,↓reduceIte,reduceAdd,reduceSub]
    · simp(disch:=omega)only[go_sem,K.oA,↓reduceIte,reduceAdd,reduceSub]
 unfold QQ
 generalize Bl l x=k at*
 have tk:List.take k (List.map (T.int .i64) l)=List.map (T.int .i64) (l.take k):=(List.map_take ..).symm
 have dk:List.drop k (List.map (T.int .i64) l)=List.map (T.int .i64) (l.drop k):=(List.map_drop ..).symm
 have tl:(l.take k).length≤1000000:=by rw[List.length_take];omega
 have dl:(l.drop k).length≤1000000:=by rw[List.length_drop];omega
 have cm:List.map D.t (List.map (T.int .i64) (l.take k))++[D.t (T.int .i64 x)]++List.map D.t (List.map (T.int .i64) (l.drop k))=List.map D.t (List.map (T.int .i64) (l.take k++x::l.drop k)):=by simp
 have rl:(l.take k).length+1+(l.drop k).length=(l.take k++x::l.drop k).length:=by simp;omega
 by_cases c:k<l.length
 · by_cases d:nth l k=x
   · rw[if_pos ⟨c,d⟩]
     clear cm
     simp(disch:=omega)only[go_sem,K.jh,↓reduceIte,loop,c,d,reduceAdd,reduceSub]
   · rw[if_neg (fun h=>d h.2)]
     generalize l.take k++x::l.drop k=R at*
     generalize l.take k=A at*
     generalize l.drop k=G at*
     simp(disch:=omega)only[go_sem,K.jh,↓reduceIte,loop,c,d,tk,dk,cm,reduceAdd,reduceSub]
 · rw[if_neg (fun h=>c h.1)]
   generalize l.take k++x::l.drop k=R at*
   generalize l.take k=A at*
   generalize l.drop k=G at*
   simp(disch:=omega)only[go_sem,K.jh,↓reduceIte,loop,c,tk,dk,cm,reduceAdd,reduceSub]
theorem Fa(l:List Int)(x y:Int):y∈QQ l x↔y=x∨y∈l:=by
 unfold QQ
 split
 · rename_i h
   constructor
   · exact .inr
   · rintro (rfl | h2)
     · rw[← h.2];exact ai h.1
     · exact h2
 · constructor
   · intro h
     rcases List.mem_append.1 h with h | h
     · exact .inr (List.mem_of_mem_take h)
     · rcases List.mem_cons.1 h with h | h
       · exact .inl h
       · exact .inr (List.mem_of_mem_drop h)
   · rintro (rfl | h)
     · exact List.mem_append_right _ (List.mem_cons_self ..)
     · rw[← List.take_append_drop (Bl l x) l]at h
       rcases List.mem_append.1 h with h | h
       · exact List.mem_append_left _ h
       · exact List.mem_append_right _ (List.mem_cons_of_mem _ h)
theorem vE{m:aC}(hm:m.ok){e:Esc}{x:Edge}(hx:x∈dH m e):x.r<m.roads.length∧jm m x.r x.a=((x.b:Int),x.t):=by
 have key:∀j,j≤m.roads.length→∀p,x∈AF m e p j→x.r<j∧x.a=p∧jm m x.r p=((x.b:Int),x.t):=by
  intro j
  induction j with
  | zero=>intro _ p h;cases h
  | succ j ih=>
    intro hj p h
    rw[AF,List.mem_append]at h
    rcases h with h | h
    · obtain⟨a,b,c⟩:=ih (by omega) p h
      exact⟨by omega,b,c⟩
    · unfold VT at h
      split at h
      · rename_i hc
        rw[List.mem_singleton]at h
        subst h
        have hp:p<m.aa.length:=by
         have:=hc.1
         unfold jm at this
         obtain⟨f0,f1,t0,t1, -, -, -, -, -, -, -, -, -, -, -⟩:=hm.rs _ (ai (show j<m.roads.length by omega))
         split at this
         · omega
         · split at this
           · omega
           · simp only at this;omega
        have oo:=vD hm (show j<m.roads.length by omega) hp hc.1
        refine⟨by simp only;omega,rfl,?_⟩
        simp only
        rw[Int.toNat_of_nonneg oo.1]
      · cases h
 obtain⟨a,b,c⟩:=key _ (aLs _) x.a ((yO hm e x.a x).2 ⟨hx,rfl⟩)
 exact⟨a,c⟩
def woN(e:Esc)(P:List Edge):Nat→Esc
 | 0=>e
 | j+1=>{ woN e P j with shut:=QQ (woN e P j).shut (nth P j).r,bad:=QQ (woN e P j).bad (nth P j).b}
theorem T7{l:List Int}{n:Int}:rq l n=true↔l.Pairwise (· < ·)∧∀x∈l,0≤x∧x<n:=by
 rw[← zA,K0]
 refine and_congr_right fun _=>forall_congr' fun x=>forall_congr' fun _=>?_
 omega
theorem ZE{l:List Int}(h:l.Pairwise (· < ·))(x:Int):(QQ l x).Pairwise (· < ·):=by
 obtain⟨k1,k2,k3⟩:=CJ l x
 unfold QQ
 split
 · exact h
 · rename_i hc
   have tk:∀y∈l.take (Bl l x),y<x:=by
    intro y hy
    obtain⟨i,hi,rfl⟩:=List.mem_iff_getElem.1 hy
    rw[List.length_take]at hi
    have:=k2 i (by omega)
    have e2:nth l i=l[i]:=bD (aLc (by omega))
    rw[e2]at this
    simpa using this
   have dk:∀y∈l.drop (Bl l x),x<y:=by
    intro y hy
    have hlt:Bl l x<l.length:=by
     have:=List.length_pos_of_mem hy
     rw[List.length_drop]at this
     omega
    rw[E7 hlt]at hy
    have h0:x<nth l (Bl l x):=by
     have:=k3 hlt
     have:¬nth l (Bl l x)=x:=fun h=>hc ⟨hlt,h⟩
     omega
    rcases List.mem_cons.1 hy with rfl | hy
    · exact h0
    · have pd:=h.drop (i:=Bl l x)
      rw[E7 hlt,List.pairwise_cons]at pd
      have:=pd.1 y hy
      omega
   rw[List.pairwise_append,List.pairwise_cons]
   refine⟨h.take,⟨dk,h.drop⟩,fun a ha b hb=>?_⟩
   have:=tk a ha
   rcases List.mem_cons.1 hb with rfl | hb
   · exact this
   · have:=dk b hb
     omega
theorem HA{l:List Int}{x n:Int}(h:rq l n=true)(h0:0≤x)(h1:x<n):rq (QQ l x) n=true:=by
 rw[T7]at h ⊢
 refine⟨ZE h.1 x,fun y hy=>?_⟩
 rcases (Fa l x y).1 hy with rfl | hy
 · exact⟨h0,h1⟩
 · exact h.2 y hy
theorem Lo(e:Esc)(P:List Edge)(x:Int):∀j,x∈(woN e P j).shut↔x∈e.shut∨∃i,i<j∧x=(nth P i).r
 | 0=>by simp[woN]
 | j+1=>by
   simp only[woN,Fa,Lo e P x j]
   constructor
   · rintro (h | h | ⟨i,h1,h2⟩)
     · exact .inr ⟨j,by omega,h⟩
     · exact .inl h
     · exact .inr ⟨i,by omega,h2⟩
   · rintro (h | ⟨i,h1,h2⟩)
     · exact .inr (.inl h)
     · by_cases c:i=j
       · subst c;exact .inl h2
       · exact .inr (.inr ⟨i,by omega,h2⟩)
theorem QT(e:Esc)(P:List Edge)(x:Int):∀j,x∈(woN e P j).bad↔x∈e.bad∨∃i,i<j∧x=(nth P i).b
 | 0=>by simp[woN]
 | j+1=>by
   simp only[woN,Fa,QT e P x j]
   constructor
   · rintro (h | h | ⟨i,h1,h2⟩)
     · exact .inr ⟨j,by omega,h⟩
     · exact .inl h
     · exact .inr ⟨i,by omega,h2⟩
   · rintro (h | ⟨i,h1,h2⟩)
     · exact .inr (.inl h)
     · by_cases c:i=j
       · subst c;exact .inl h2
       · exact .inr (.inr ⟨i,by omega,h2⟩)
theorem Fb(e:Esc)(P:List Edge):∀j,(woN e P j).safe=e.safe∧(woN e P j).b9=e.b9
 | 0=>⟨rfl,rfl⟩
 | j+1=>Fb e P j
theorem QU{m:aC}{e:Esc}(he:e.ok m){P:List Edge}(hP:∀x∈P,x.r<m.roads.length∧x.b<m.aa.length):∀j,j≤P.length→(woN e P j).ok m
 | 0,_=>he
 | j+1,hj=>by
   have h:=QU he hP j (by omega)
   have x:=hP _ (ai (show j<P.length by omega))
   exact⟨h.s,HA h.b (by omega) (by omega),HA h.h (by omega) (by omega),h.l0,h.l1⟩
theorem QV(e:Esc)(P:List Edge)(x:Int):x∈(woN e P P.length).shut↔x∈e.shut∨x∈nD P:=by
 rw[Lo]
 refine or_congr_right ⟨?_,?_⟩
 · rintro ⟨i,h1,rfl⟩
   exact List.mem_map.2 ⟨_,ai h1,rfl⟩
 · intro h
   obtain⟨y,hy,rfl⟩:=List.mem_map.1 h
   obtain⟨i,hi,rfl⟩:=List.mem_iff_getElem.1 hy
   exact⟨i,hi,by rw[bD (aLc hi)]⟩
theorem VV(e:Esc)(P:List Edge)(x:Int):x∈(woN e P P.length).bad↔x∈e.bad∨x∈Jx P:=by
 rw[QT]
 refine or_congr_right ⟨?_,?_⟩
 · rintro ⟨i,h1,rfl⟩
   exact List.mem_map.2 ⟨_,ai h1,rfl⟩
 · intro h
   obtain⟨y,hy,rfl⟩:=List.mem_map.1 h
   obtain⟨i,hi,rfl⟩:=List.mem_iff_getElem.1 hy
   exact⟨i,hi,by rw[bD (aLc hi)]⟩
theorem T8(m:aC)(e f:Esc)(l:List Int)(h:∀x,x∈f.shut↔x∈e.shut∨x∈l)(k:Nat):Bi l (zK m e k)=zK m f k:=by
 unfold Bi zK
 by_cases c:(k:Int)∈e.shut
 · rw[if_pos c,if_pos ((h _).2 (.inl c))];rfl
 · rw[if_neg c,List.filter_append]
   by_cases d:(k:Int)∈l
   · rw[if_pos ((h _).2 (.inr d))]
     split<;>split<;>simp[oB,d]
   · rw[if_neg (fun hh=>((h _).1 hh).elim c d)]
     split<;>split<;>simp[oB,d]
theorem Lp(m:aC)(e f:Esc)(l:List Int)(h:∀x,x∈f.shut↔x∈e.shut∨x∈l):Bi l (dH m e)=dH m f:=by
 have key:∀j,Bi l (mL m e j)=mL m f j:=by
  intro j
  induction j with
  | zero=>rfl
  | succ j ih=>
    have:Bi l (mL m e j++zK m e j)=Bi l (mL m e j)++Bi l (zK m e j):=List.filter_append ..
    rw[mL,this,ih,T8 m e f l h j]
    rfl
 exact key _
theorem QW{a b:List Bool}(hl:a.length=b.length)(h:∀i,i<a.length→nth a i=nth b i):a=b:=by
 refine List.ext_getElem? fun i=>?_
 by_cases hi:i<a.length
 · rw[c7 hi,c7 (by omega),h i hi]
 · rw[aLm (by omega),aLm (by omega)]
theorem aeR{m:aC}{e f:Esc}(he:e.ok m)(hf:f.ok m)(l:List Int)(hl:∀x∈l,0≤x)(h:∀x,x∈f.bad↔x∈e.bad∨x∈l):wD (bdL m e) l l.length=bdL m f:=by
 refine QW (by rw[ku,zJ,zJ]) fun i hi=>?_
 rw[ku,zJ]at hi
 rw[Bh _ _ i (by rw[zJ];exact hi) hl _ (aLs _),List.take_length,xx he hi,xx hf hi]
 unfold bdF
 rw[← Bool.decide_or]
 exact decide_eq_decide.2 (h i).symm
def atN(p:Nat)(P:List Edge):Nat→Nat
 | 0=>p
 | j+1=>(nth P j).b
theorem Fc:∀ {p:Nat} {P:List Edge},Hn p P→∀j,j<P.length→(nth P j).a=atN p P j
 | p,[],_,j,h=>absurd h (by simp)
 | p,x::P,h,0,_=>h.1
 | p,x::P,h,j+1,hj=>by
   have:=Fc h.2 j (by simpa using hj)
   cases j with
   | zero=>exact this
   | succ j=>exact this
theorem M5{m:aC}(hm:m.ok){e:Esc}(he:e.ok m){p:Nat}(hp:p<m.aa.length){P:List Edge}(hl:P.length≤100000000)(hP:∀x∈P,x∈dH m e)(hc:Hn p P):
 aH 0 N.fT [.t m.e,.t e.e,I p,.t (tL (nD P))] []=some (.t (woN e P P.length).e,[]):=by
 refine av K.pw rfl ?_
 have nr:=hm.nr
 have hP2:∀x∈P,x.r<m.roads.length∧x.b<m.aa.length:=fun x hx=>⟨(vE hm (hP x hx)).1,(cN hm e x (hP x hx)).2.1⟩
 have rl:(nD P).length=P.length:=by simp
 have loop:∀z0 z1 z2 z9:D,exS aH K.s6 ⟨[z0,z1,z2,.t (tL (nD P)),.bp 0 0,.bp 1 0,.bp 2 0,I p,I 0,z9],[.box (ae m),.box (gV e),.box [.nil,.nil,.nil,I 0]]⟩=
  some (.exit 0,⟨[.und,.und,.und,.t (tL (nD P)),.bp 0 0,.bp 1 0,.bp 2 0,I (atN p P P.length),I P.length,.und],[.box (ae m),.box (gV (woN e P P.length)),.box [.nil,.nil,.nil,I 0]]⟩):=by
  intro z0 z1 z2 z9
  refine bz (fun j=>⟨[.und,.und,.und,.t (tL (nD P)),.bp 0 0,.bp 1 0,.bp 2 0,I (atN p P j),I j,.und],[.box (ae m),.box (gV (woN e P j)),.box [.nil,.nil,.nil,I 0]]⟩) P.length (by simp only[go_sem];rfl) ?_ ?_ (by simp)
  · intro j hj
    have hx:=hP _ (ai hj)
    obtain⟨w1,w2⟩:=vE hm hx
    have xo:=cN hm e _ hx
    have ca:=Fc hc j hj
    have wk:=QU he hP2 j (by omega)
    have sl:=wk.hl hm
    have bl:=wk.bl hm
    have nx:nth (nD P) j=((nth P j).r:Int):=bD (bR _ hj)
    have ot:=uQ hm (nth P j).r w1 (atN p P j) (by rw[← ca];exact xo.1)
    rw[ca]at w2
    rw[w2]at ot
    have q1:=QS (woN e P j).shut (nth P j).r (by omega)
    have q2:=QS (woN e P j).bad (nth P j).b (by omega)
    have a1:atN p P (j+1)=(nth P j).b:=rfl
    have a2:woN e P (j+1)={ woN e P j with shut:=QQ (woN e P j).shut (nth P j).r,bad:=QQ (woN e P j).bad (nth P j).b}:=rfl
    rw[a1,a2]
    generalize atN p P j=q at*
    generalize woN e P j=f at*
    generalize nth P j=x at*
    generalize nD P=R at*
    obtain⟨xr,xa,xb,xt⟩:=x
    obtain⟨aa,roads⟩:=m
    obtain⟨safe,bad,shut,b9⟩:=f
    simp only[ae,gV]at*
    simp(disch:=omega)only[go_sem,K.m8,↓reduceIte,nx,ot,q1,q2,reduceAdd,reduceSub]
  · obtain⟨aa,roads⟩:=m
    simp only[ae]at*
    simp(disch:=omega)only[go_sem,K.m8,↓reduceIte,reduceAdd,reduceSub]
 generalize woN e P P.length=f at*
 generalize nD P=R at*
 obtain⟨aa,roads⟩:=m
 obtain⟨s1,b1,h1,m1⟩:=e
 obtain⟨safe,bad,shut,b9⟩:=f
 simp only[ae,gV]at*
 simp(disch:=omega)only[go_sem,K.fT,↓reduceIte,loop,reduceAdd,reduceSub]
abbrev NQ(m:aC)(e:Esc)(p:Nat):Esc:=woN e (w1E m e p) (w1E m e p).length
theorem HB{m:aC}(hm:m.ok){e:Esc}(he:e.ok m){p:Nat}(hp:p<m.aa.length)(hf:c1E m e p<j5):
 (NQ m e p).ok m∧c1E m (NQ m e p) p=c2E m e p∧w1E m (NQ m e p) p=w2E m e p∧sfF m (NQ m e p) p=sfF m e p:=by
 have pk:=Hu hm e hp hf
 have hP2:∀x∈w1E m e p,x.r<m.roads.length∧x.b<m.aa.length:=fun x hx=>⟨(vE hm (pk.mem x hx).1).1,(pk.mem x hx).2.2⟩
 have ok2:=QU he hP2 _ (aLs _)
 have sf:=(Fb e (w1E m e p) (w1E m e p).length).1
 have w:dH m (NQ m e p)=st2 m e p:=(Lp m e _ _ (QV e (w1E m e p))).symm
 have b:bdL m (NQ m e p)=bd2 m e p:=(aeR he ok2 _ (fun x hx=>by
  obtain⟨y,hy,rfl⟩:=List.mem_map.1 hx
  omega) (VV e (w1E m e p))).symm
 have s:sfL m (NQ m e p)=sfL m e:=by unfold sfL;rw[sf]
 refine⟨ok2,?_,?_,?_⟩
 · unfold c1E c2E;rw[w,b,s]
 · show Zu (dH m (NQ m e p)) (sfL m (NQ m e p)) (bdL m (NQ m e p)) m.aa.length p=w2E m e p
   rw[w,b,s];rfl
 · unfold sfF;rw[sf]
def ZF(m:aC)(e:Esc)(p:Nat):D:=
 if sfF m e p=true then .tup [.t (tL []),.t (tL []),B true]
 else if c1E m e p<j5∧c2E m e p<j5 then .tup [.t (tL (nD (w1E m e p))),.t (tL (nD (w2E m e p))),B true]else .tup [.t (tL []),.t (tL []),B false]
theorem ZG{m:aC}(hm:m.ok){e:Esc}(he:e.ok m){p:Nat}(hp:p<m.aa.length)(hz:sfF m e p=false)(hf:c1E m e p<j5):w1E m e p≠[]:=by
 intro h
 have pk:=(Hu hm e hp hf).fin
 rw[h]at pk
 have:nth (sfL m e) p=true:=pk
 rw[px he hp,hz]at this
 cases this
theorem ZH{m:aC}(hm:m.ok){e:Esc}(he:e.ok m){p:Nat}(hp:p<m.aa.length):aH 0 N.jg [.t m.e,.t e.e,I p] []=some (ZF m e p,[]):=by
 refine av K.xn rfl ?_
 have b1:=Lm hm he p hp
 unfold ZF
 unfold Ll at b1
 cases hz:sfF m e p with
 | true=>
   rw[hz,if_pos rfl]at b1
   rw[if_pos rfl]
   obtain⟨aa,roads⟩:=m
   obtain⟨safe,bad,shut,b9⟩:=e
   simp only[ae,gV,tL,List.map_nil]at*
   simp(disch:=omega)only[go_sem,K.jg,↓reduceIte,b1,Bool.not_true,reduceAdd,reduceSub]
 | false=>
   rw[hz,if_neg (by simp)]at b1
   rw[if_neg (by simp)]
   by_cases hf:c1E m e p<j5
   · rw[if_pos hf]at b1
     obtain⟨ok2,s1,s2,s3⟩:=HB hm he hp hf
     have pk:=Hu hm e hp hf
     have wo:=M5 hm he hp (by have:=E4 hm e hp hf;omega) (fun x hx=>(pk.mem x hx).1) pk.chain
     have b2:=Lm hm ok2 p hp
     unfold Ll at b2
     rw[s1,s2,s3,hz,if_neg (by simp)]at b2
     have ne:¬(nD (w1E m e p)).length=0:=by
      have:=ZG hm he hp hz hf
      rw[List.length_map]
      exact fun h=>this (List.length_eq_zero_iff.1 h)
     have n0:0<(nD (w1E m e p)).length:=by omega
     clear pk s1 s2 s3 ok2
     generalize hE2:NQ m e p=e2 at*
     have hE3:woN e (w1E m e p) (w1E m e p).length=e2:=hE2
     rw[hE3]at wo
     clear hE2 hE3
     generalize nD (w1E m e p)=R at*
     generalize nD (w2E m e p)=Q at*
     generalize c1E m e p=t1 at*
     generalize c2E m e p=t2 at*
     obtain⟨aa,roads⟩:=m
     obtain⟨safe,bad,shut,b9⟩:=e
     obtain⟨safe2,bad2,shut2,limit2⟩:=e2
     simp only[ae,gV]at*
     by_cases h2:t2<j5
     · rw[if_pos h2]at b2
       rw[if_pos ⟨hf,h2⟩]
       simp(disch:=omega)only[go_sem,K.jg,↓reduceIte,b1,b2,wo,ne,Bool.not_true,reduceAdd,reduceSub]
     · rw[if_neg h2]at b2
       rw[if_neg (fun h=>h2 h.2)]
       simp only[tL,List.map_nil]at*
       simp(disch:=omega)only[go_sem,K.jg,↓reduceIte,b1,b2,wo,ne,Bool.not_true,Bool.not_false,reduceAdd,reduceSub]
   · rw[if_neg hf]at b1
     rw[if_neg (fun h=>hf h.1)]
     obtain⟨aa,roads⟩:=m
     obtain⟨safe,bad,shut,b9⟩:=e
     simp only[ae,gV,tL,List.map_nil]at*
     simp(disch:=omega)only[go_sem,K.jg,↓reduceIte,b1,Bool.not_false,reduceAdd,reduceSub]
theorem Lq{m:aC}(hm:m.ok){k:Nat}(hk:k<m.roads.length)(b:Bool):kt m k b= -1↔((nth m.roads k).closed=true∨(nth m.roads k).walk=false):=by
 have l0:=(hm.rs _ (ai hk)).l0
 have l1:=(hm.rs _ (ai hk)).l1
 constructor
 · intro h
   apply Classical.byContradiction
   intro hn
   unfold kt iC at h
   simp only at h
   rw[if_neg hn]at h
   have:=VS (s:=if -10*((nth m.aa (if b=true then(nth m.roads k).frm else(nth m.roads k).to).toNat).h-(nth m.aa (if b=true then(nth m.roads k).to else(nth m.roads k).frm).toNat).h)>(nth m.roads k).len then 3 else if 10*((nth m.aa (if b=true then(nth m.roads k).frm else(nth m.roads k).to).toNat).h-(nth m.aa (if b=true then(nth m.roads k).to else(nth m.roads k).frm).toNat).h)>(nth m.roads k).len then 2 else 4) l0 l1 (by
    repeat' split
    all_goals first | exact .inl rfl | exact .inr (.inl rfl) | exact .inr (.inr rfl))
   omega
 · intro h
   unfold kt iC
   simp only
   rw[if_pos h]
theorem ZI{m:aC}(hm:m.ok)(p:Nat)(hp:p<m.aa.length):aH 0 N.kW [.t m.e,I p] []=some (I (M0 m p),[]):=by
 refine av K.xp rfl ?_
 have np:=hm.np
 have nr:=hm.nr
 have loop:∀z0 z3 z6:D,exS aH K.Ax ⟨[z0,I p,.bp 0 0,z3,I 0,I 0,z6],[.box (ae m)]⟩=
  some (.exit 0,⟨[.und,I p,.bp 0 0,.und,I (M0 m p),I m.roads.length,.und],[.box (ae m)]⟩):=by
  intro z0 z3 z6
  refine bz (fun j=>⟨[.und,I p,.bp 0 0,.und,I (Ht m p j),I j,.und],[.box (ae m)]⟩) m.roads.length rfl ?_ ?_ (by simp)
  · intro j hj
    have w1:=Bg hm j hj false
    have w2:=Bg hm j hj true
    have b0:=CF hm p j (by omega)
    have b1:=lu hm j hj false
    have b2:=lu hm j hj true
    have i1:=Lq hm hj false
    have i2:=Lq hm hj true
    have ne:=(hm.rs _ (ai hj)).ne
    have bb:kt m j false= -1↔kt m j true= -1:=i1.trans i2.symm
    have ex:(m.roads.map Road.e)[j]?=some (nth m.roads j).e:=bR _ hj
    clear i1 i2
    conv=>rhs;unfold Ht
    generalize Ht m p j=L at*
    generalize kt m j false=u at*
    generalize kt m j true=v at*
    generalize nth m.roads j=x at*
    obtain⟨frm,to,len,ar,walk,closed,rl,rh,ll,lh⟩:=x
    simp only at*
    obtain⟨aa,roads⟩:=m
    simp only[ae]at*
    have m1:∀a:Int,0≤a→max a (-1)=a:=fun a h=>by omega
    by_cases c1:frm=p
    · have c2:¬to=p:=fun h=>ne (by rw[c1,h])
      by_cases c3:0≤u
      · simp(disch:=omega)only[go_sem,K.jw,↓reduceIte,ex,w1,w2,c1,c2,c3,reduceAdd,reduceSub]
      · have v1:v= -1:=by omega
        subst v1
        simp(disch:=omega)only[go_sem,K.jw,↓reduceIte,ex,w1,w2,c1,c2,c3,m1,reduceAdd,reduceSub]
    · by_cases c2:to=p
      · by_cases c3:0≤v
        · simp(disch:=omega)only[go_sem,K.jw,↓reduceIte,ex,w1,w2,c1,c2,c3,reduceAdd,reduceSub]
        · have u1:u= -1:=by omega
          subst u1
          simp(disch:=omega)only[go_sem,K.jw,↓reduceIte,ex,w1,w2,c1,c2,c3,m1,reduceAdd,reduceSub]
      · simp(disch:=omega)only[go_sem,K.jw,↓reduceIte,ex,w1,w2,c1,c2,reduceAdd,reduceSub]
  · obtain⟨aa,roads⟩:=m
    simp only[ae]at*
    simp(disch:=omega)only[go_sem,K.jw,↓reduceIte,reduceAdd,reduceSub]
    rfl
 generalize M0 m p=r at*
 obtain⟨aa,roads⟩:=m
 simp only[ae]at*
 simp(disch:=omega)only[go_sem,K.kW,↓reduceIte,loop,reduceAdd,reduceSub]
def Jy(P:List Edge):Nat→Int
 | 0=>0
 | j+1=>Jy P j+(nth P j).t
def Jz(p:Nat)(P:List Edge)(j:Nat):List Int:=(p:Int)::Jx (P.take j)
structure ajg(m:aC)(e:Esc)(p:Nat)(P:List Edge):Prop where
 mem:∀x∈P,x∈dH m e∧sfF m e x.a=false∧bdF e x.b=false
 ch:Hn p P
 nd:(p::P.map Edge.b).Nodup
 fin:sfF m e (Y9 p P)=true
theorem JA:∀(p:Nat) (P:List Edge),Y9 p P=atN p P P.length
 | p,[]=>rfl
 | p,x::P=>by
   show Y9 x.b P=_
   rw[JA x.b P]
   cases P<;>rfl
theorem QX{P:List Edge}(h:∀x∈P,1≤x.t∧x.t≤1000000):∀j,j≤P.length→0≤Jy P j∧Jy P j≤1000000*j
 | 0,_=>by simp[Jy]
 | j+1,hj=>by
   have:=QX h j (by omega)
   have:=h _ (ai (show j<P.length by omega))
   simp only[Jy]
   omega
theorem QY(p:Nat)(P:List Edge){j:Nat}(hj:j<P.length):Jz p P (j+1)=Jz p P j++[((nth P j).b:Int)]:=by
 unfold Jz
 rw[List.take_succ,c7 hj]
 simp[Jx]
theorem Lr(p:Nat)(P:List Edge){j:Nat}(hj:j≤P.length):(Jz p P j).length=j+1:=by
 unfold Jz
 simp[Jx,List.length_take]
 omega
theorem T9{p:Nat}{P:List Edge}(h:(p::P.map Edge.b).Nodup){j:Nat}(hj:j<P.length):((nth P j).b:Int)∉Jz p P j:=by
 intro hm
 unfold Jz at hm
 have e:P=P.take j++nth P j::P.drop (j+1):=by
  have hx:P.drop j=nth P j::P.drop (j+1):=by
   rw[List.drop_eq_getElem_cons hj]
   congr 1
   have:=c7 hj
   rw[aLc hj]at this
   exact Option.some.inj this
  rw[← hx,List.take_append_drop]
 rw[e,List.map_append,List.map_cons,List.nodup_cons,List.mem_append,List.nodup_append]at h
 obtain⟨h1,h2,h3,h4⟩:=h
 rcases List.mem_cons.1 hm with hm | hm
 · exact h1 (.inr (by rw[show p=(nth P j).b by omega];exact List.mem_cons_self ..))
 · obtain⟨y,hy,hq⟩:=List.mem_map.1 hm
   exact h4 y.b (List.mem_map.2 ⟨y,hy,rfl⟩) (nth P j).b (List.mem_cons_self ..) (by omega)
theorem HC(m:aC)(e:Esc)(p:Nat){x:Edge}:∀j,x∈AF m e p j→(x.r:Int)∉e.shut
 | 0,h=>by cases h
 | j+1,h=>by
   rw[AF,List.mem_append]at h
   rcases h with h | h
   · exact HC m e p j h
   · unfold VT at h
     split at h
     · rename_i hc
       rw[List.mem_singleton]at h
       subst h
       exact hc.2
     · cases h
theorem ZJ{m:aC}(hm:m.ok){e:Esc}(he:e.ok m){p:Nat}(hp:p<m.aa.length){P:List Edge}(hl:P.length≤64000000)(g:ajg m e p P)(z0 z1 z2 z6 z7 z12 z13:D):
 exS aH K.yG ⟨[z0,z1,z2,.t (tL (nD P)),.bp 0 0,.bp 1 0,z6,z7,I p,I 0,.ref 2 0 1,I 0,z12,z13],[.box (ae m),.box (gV e),pT [(p:Int)]]⟩=
  some (.exit 0,⟨[.und,.und,.und,.t (tL (nD P)),.bp 0 0,.bp 1 0,.und,.und,I (atN p P P.length),I (Jy P P.length),.ref 2 0 (Jz p P P.length).length,I P.length,.und,.und],[.box (ae m),.box (gV e),pT (Jz p P P.length)]⟩):=by
 have nr:=hm.nr
 have np:=hm.np
 have rl:(nD P).length=P.length:=by simp
 refine bz (fun j=>⟨[.und,.und,.und,.t (tL (nD P)),.bp 0 0,.bp 1 0,.und,.und,I (atN p P j),I (Jy P j),.ref 2 0 (Jz p P j).length,I j,.und,.und],[.box (ae m),.box (gV e),pT (Jz p P j)]⟩) P.length (by simp only[go_sem];rfl) ?_ ?_ (by simp)
 · intro j hj
   obtain⟨hx,hz,hb⟩:=g.mem _ (ai hj)
   obtain⟨w1,w2⟩:=vE hm hx
   have xo:=cN hm e _ hx
   have ca:=Fc g.ch j hj
   have nx:nth (nD P) j=((nth P j).r:Int):=bD (bR _ hj)
   have ot:=uQ hm (nth P j).r w1 (atN p P j) (by rw[← ca];exact xo.1)
   have sf:=sN hm (e:=e) (by have:=he.sl hm;omega) (atN p P j) (by rw[← ca];exact xo.1)
   rw[ca]at w2 hz
   rw[w2]at ot
   rw[hz]at sf
   have ns:¬((nth P j).r:Int)∈e.shut:=by
    intro h
    exact HC m e _ _ ((yO hm e (nth P j).a (nth P j)).2 ⟨hx,rfl⟩) h
   have h1:=mO e.shut (nth P j).r (by have:=he.hl hm;omega)
   rw[decide_eq_false ns]at h1
   have ml:=Lr p P (j:=j) (by omega)
   have h2:=mO (Jz p P j) (nth P j).b (by omega)
   rw[decide_eq_false (T9 g.nd hj)]at h2
   have h3:=mO e.bad (nth P j).b (by have:=he.bl hm;omega)
   unfold bdF at hb
   rw[hb]at h3
   have sb:=QX (P:=P) (fun x hx=>(cN hm e x (g.mem x hx).1).2.2) j (by omega)
   have a1:atN p P (j+1)=(nth P j).b:=rfl
   have a2:Jy P (j+1)=Jy P j+(nth P j).t:=rfl
   have xt:=xo.2.2
   rw[a1,a2,QY p P hj]
   clear hx hz hb ca ns w2 xo a1 a2
   generalize atN p P j=q at*
   generalize Jy P j=S at*
   generalize Jz p P j=M at*
   generalize nth P j=x at*
   generalize nD P=R at*
   obtain⟨xr,xa,xb,xt⟩:=x
   obtain⟨aa,roads⟩:=m
   obtain⟨safe,bad,shut,b9⟩:=e
   simp only[ae,gV]at*
   simp(disch:=omega)only[go_sem,K.qw,↓reduceIte,nx,ot,sf,h1,h2,h3,reduceAdd,reduceSub]
   simp only[pT,List.map_append,List.map_cons,List.map_nil]
 · have ml:=Lr p P (j:=P.length) (aLs _)
   generalize Jz p P P.length=M at*
   generalize nD P=R at*
   obtain⟨aa,roads⟩:=m
   obtain⟨safe,bad,shut,b9⟩:=e
   simp only[ae,gV]at*
   simp(disch:=omega)only[go_sem,K.qw,↓reduceIte,reduceAdd,reduceSub]
theorem Fe{m:aC}(hm:m.ok){e:Esc}(he:e.ok m){p:Nat}(hp:p<m.aa.length){P:List Edge}(hl:P.length≤64000000)(g:ajg m e p P):
 aH 0 N.gR [.t m.e,.t e.e,I p,.t (tL (nD P))] []=some (.tup [I (Jy P P.length),I 0],[]):=by
 refine av K.uD rfl ?_
 have np:=hm.np
 have vd:=Lg hm he
 have lp:=ZJ hm he hp hl g
 have ap:atN p P P.length<m.aa.length:=by
  cases hP:P.length with
  | zero=>exact hp
  | succ j=>
    have:=(g.mem _ (ai (show j<P.length by omega))).1
    exact(cN hm e _ this).2.1
 have sf:=sN hm (e:=e) (by have:=he.sl hm;omega) (atN p P P.length) ap
 have fz:=g.fin
 rw[JA]at fz
 rw[fz]at sf
 clear g fz
 generalize atN p P P.length=q at*
 generalize Jy P P.length=S at*
 generalize Jz p P P.length=M at*
 generalize nD P=R at*
 obtain⟨aa,roads⟩:=m
 obtain⟨safe,bad,shut,b9⟩:=e
 simp only[ae,gV]at*
 simp(disch:=omega)only[go_sem,K.gR,↓reduceIte,vd,Bool.not_true,reduceAdd,reduceSub]
 refine ig (lp _ _ _ _ _ _ _) ?_
 simp(disch:=omega)only[go_sem,K.gR,↓reduceIte,sf,Bool.not_true,reduceAdd,reduceSub]
theorem Lt(P:List Edge):∀j,j≤P.length→Jy P j=((P.take j).map Edge.t).sum
 | 0,_=>rfl
 | j+1,hj=>by
   rw[Jy,Lt P j (by omega),List.take_succ,c7 hj,List.map_append,List.sum_append]
   simp
theorem HD{m:aC}(hm:m.ok){e f:Esc}(he:e.ok m)(hf:f.ok m)(hs:f.safe=e.safe)(hb:∀x∈e.bad,x∈f.bad)(hh:∀x∈e.shut,x∈f.shut){p:Nat}(hp:p<m.aa.length)(h1:c1E m f p<j5):
 ajg m e p (w1E m f p)∧Jy (w1E m f p) (w1E m f p).length=c1E m f p:=by
 have pk:=Hu hm f hp h1
 constructor
 · refine⟨fun x hx=>?_,pk.chain,?_,?_⟩
   · obtain⟨a,b,c⟩:=pk.mem x hx
     have xo:=cN hm f x a
     unfold uB at b
     rw[px hf xo.1,xx hf xo.2.1]at b
     simp only[aLr,Bool.not_eq_true']at b
     refine⟨?_,?_,?_⟩
     · have:x∈Bi f.shut (dH m e):=by
        rw[Lp m e f f.shut (fun y=>⟨.inr,fun h=>h.elim (hh y) id⟩)]
        exact a
       exact(List.mem_filter.1 this).1
     · have:=b.1
       unfold sfF at this ⊢
       rw[← hs]
       exact this
     · have:=b.2
       unfold bdF at this ⊢
       rw[decide_eq_false_iff_not]at this ⊢
       exact fun h=>this (hb _ h)
   · rw[List.nodup_cons]
     refine⟨fun hm'=>?_,pk.dis⟩
     obtain⟨y,hy,rfl⟩:=List.mem_map.1 hm'
     have:=pk.low y hy
     omega
   · have:=pk.fin
     have ep:Y9 p (w1E m f p)<m.aa.length:=by
      rw[JA]
      cases hP:(w1E m f p).length with
      | zero=>exact hp
      | succ j=>exact(pk.mem _ (ai (show j<(w1E m f p).length by omega))).2.2
     have:nth (sfL m f) (Y9 p (w1E m f p))=true:=this
     rw[px hf ep]at this
     unfold sfF at this ⊢
     rw[← hs]
     exact this
 · rw[Lt _ _ (aLs _),List.take_length]
   exact pk.sum
theorem M6{m:aC}(hm:m.ok){e:Esc}(he:e.ok m){p:Nat}(hp:p<m.aa.length):aH 0 N.cX [.t m.e,.t e.e,I p] []=some (B (km m e p),[]):=by
 refine av K.qx rfl ?_
 have tw:=ZH hm he hp
 have lg:=ZI hm p hp
 have lb:=CF hm p m.roads.length (aLs _)
 have le:Ht m p m.roads.length=M0 m p:=rfl
 rw[le]at lb
 unfold ZF at tw
 unfold km
 rw[px he hp]
 have fc:j5=1152921504606846976:=rfl
 have e0:=he.l0
 have e1:=he.l1
 cases hz:sfF m e p with
 | true=>
   rw[hz,if_pos rfl]at tw
   rw[if_pos rfl]
   have tm0:=Fe hm he hp (P:=[]) (by simp) ⟨by simp,trivial,by simp,hz⟩
   have tm:aH 0 N.gR [.t m.e,.t e.e,I p,.t (.sl [])] []=some (.tup [I 0,I 0],[]):=tm0
   clear hz le tm0
   generalize M0 m p=lag at*
   obtain⟨aa,roads⟩:=m
   obtain⟨safe,bad,shut,b9⟩:=e
   simp only[tL,List.map_nil]at*
   by_cases c:lag≤b9
   · simp(disch:=omega)only[go_sem,K.cX,↓reduceIte,tw,lg,tm,c,Bool.not_true,Int.zero_add,decide_true,reduceAdd,reduceSub]
   · simp(disch:=omega)only[go_sem,K.cX,↓reduceIte,tw,lg,tm,c,Bool.not_true,Int.zero_add,decide_false,reduceAdd,reduceSub]
 | false=>
   rw[hz,if_neg (by simp)]at tw
   rw[if_neg (by simp)]
   by_cases h:c1E m e p<j5∧c2E m e p<j5
   · rw[if_pos h]at tw
     obtain⟨ok2,s1,s2,s3⟩:=HB hm he hp h.1
     have sf:=Fb e (w1E m e p) (w1E m e p).length
     have g1:=HD hm he he rfl (fun _ h=>h) (fun _ h=>h) hp h.1
     have g2:=HD hm he ok2 sf.1 (fun x hx=>(VV e _ x).2 (.inl hx)) (fun x hx=>(QV e _ x).2 (.inl hx)) hp (by rw[s1];exact h.2)
     have l2:=E4 hm (NQ m e p) hp (by rw[s1];exact h.2)
     rw[s1,s2]at g2
     rw[s2]at l2
     have t1:=Fe hm he hp (E4 hm e hp h.1) g1.1
     have t2:=Fe hm he hp l2 g2.1
     rw[g1.2]at t1
     rw[g2.2]at t2
     have c1:=sO (sf:=sfL m e) (bd:=bdL m e) (cN hm e) hm.np hp h.1
     have c2:=sO (sf:=sfL m e) (bd:=bd2 m e p) (E3 (nD (w1E m e p)) (cN hm e)) hm.np hp h.2
     have e3:(nth (iH (dH m e) (sfL m e) (bdL m e) m.aa.length) p).t=c1E m e p:=rfl
     have e4:(nth (iH (Bi (nD (w1E m e p)) (dH m e)) (sfL m e) (bd2 m e p) m.aa.length) p).t=c2E m e p:=rfl
     rw[e3]at c1
     rw[e4]at c2
     clear e3 e4 g1 g2 ok2 s1 s2 s3 sf le l2 hz
     have h1:=h.1
     have h2:=h.2
     clear h
     generalize M0 m p=lag at*
     generalize c1E m e p=u at*
     generalize c2E m e p=v at*
     generalize nD (w1E m e p)=R at*
     generalize nD (w2E m e p)=Q at*
     obtain⟨aa,roads⟩:=m
     obtain⟨safe,bad,shut,b9⟩:=e
     simp only at*
     have key:(u<j5∧v<j5∧lag+max u v≤b9)↔(u+lag≤b9∧v+lag≤b9):=by
      constructor
      · intro h;omega
      · intro h;refine⟨h1,h2,?_⟩;omega
     by_cases a:u+lag≤b9
     · by_cases b:v+lag≤b9
       · rw[decide_eq_true (key.2 ⟨a,b⟩)]
         simp(disch:=omega)only[go_sem,K.cX,↓reduceIte,tw,lg,t1,t2,a,b,Bool.not_true,decide_true,reduceAdd,reduceSub]
       · rw[decide_eq_false (fun h=>b (key.1 h).2)]
         simp(disch:=omega)only[go_sem,K.cX,↓reduceIte,tw,lg,t1,t2,a,b,Bool.not_true,decide_false,reduceAdd,reduceSub]
     · rw[decide_eq_false (fun h=>a (key.1 h).1)]
       simp(disch:=omega)only[go_sem,K.cX,↓reduceIte,tw,lg,t1,t2,a,Bool.not_true,decide_false,reduceAdd,reduceSub]
   · rw[if_neg h]at tw
     rw[decide_eq_false (fun hh=>h ⟨hh.1,hh.2.1⟩)]
     obtain⟨aa,roads⟩:=m
     obtain⟨safe,bad,shut,b9⟩:=e
     simp only[tL,List.map_nil]at*
     simp(disch:=omega)only[go_sem,K.cX,↓reduceIte,tw,Bool.not_false,reduceAdd,reduceSub]
def clR(r:Road)(b:Bool):Road:={ r with closed:=b}
def clN(rs:List Road)(l:List Int)(b:Bool):Nat→List Road
 | 0=>rs
 | j+1=>(clN rs l b j).set (nth l j).toNat (clR (nth (clN rs l b j) (nth l j).toNat) b)
theorem pA(rs:List Road)(l:List Int)(b:Bool):∀j,(clN rs l b j).length=rs.length
 | 0=>rfl
 | j+1=>by simp only[clN,List.length_set];exact pA rs l b j
theorem JB{L:List Road}{i j:Nat}{a:Road}(h:j≠i):nth (L.set j a) i=nth L i:=by
 unfold nth
 simp only[aLl,aLi h]
theorem JC(rs:List Road)(l:List Int)(b:Bool)(p:Nat)(hp:p<rs.length)(h0:∀x∈l,0≤x):∀j,j≤l.length→nth (clN rs l b j) p=if(p:Int)∈l.take j then clR (nth rs p) b else nth rs p
 | 0,_=>by simp[clN]
 | j+1,hj=>by
   have ih:=JC rs l b p hp h0 j (by omega)
   have hx:0≤nth l j:=h0 _ (ai (by omega))
   have tk:l.take (j+1)=l.take j++[nth l j]:=by
    rw[List.take_succ,c7 (by omega)];rfl
   simp only[clN]
   by_cases c:(nth l j).toNat=p
   · have m:(p:Int)∈l.take (j+1):=by
      rw[tk,List.mem_append,List.mem_singleton];right;omega
     rw[if_pos m,c]
     have:nth ((clN rs l b j).set p (clR (nth (clN rs l b j) p) b)) p=clR (nth (clN rs l b j) p) b:=bD (aLj (by rw[pA];exact hp))
     rw[this,ih]
     split<;>rfl
   · rw[JB c,ih]
     have:((p:Int)∈l.take (j+1))=((p:Int)∈l.take j):=by
      rw[tk,List.mem_append,List.mem_singleton]
      exact propext ⟨fun h=>h.elim id (fun h=>absurd (by omega) c),.inl⟩
     simp only[this]
def dz(m:aC)(shut opn:List Int):aC:=⟨m.aa,clN (clN m.roads shut true shut.length) opn false opn.length⟩
theorem vF(m:aC)(s o:List Int):(dz m s o).roads.length=m.roads.length:=by unfold dz;rw[pA,pA]
theorem D7{m:aC}{s o:List Int}(hs:rq s m.roads.length=true)(ho:rq o m.roads.length=true){p:Nat}(hp:p<m.roads.length):
 nth (dz m s o).roads p=if(p:Int)∈o then clR (nth m.roads p) false else if(p:Int)∈s then clR (nth m.roads p) true else nth m.roads p:=by
 unfold dz
 simp only
 rw[JC _ _ _ p (by rw[pA];exact hp) (fun x hx=>(pW ho x hx).1) _ (aLs _),JC _ _ _ p hp (fun x hx=>(pW hs x hx).1) _ (aLs _),List.take_length,List.take_length]
 by_cases c:(p:Int)∈o
 · rw[if_pos c,if_pos c];split<;>rfl
 · rw[if_neg c,if_neg c]
theorem HE{m:aC}(h:m.ok){s o:List Int}(hs:rq s m.roads.length=true)(ho:rq o m.roads.length=true):(dz m s o).ok:=by
 refine⟨h.np,by rw[vF];exact h.nr,h.hs,?_⟩
 intro r hr
 obtain⟨j,hj,rfl⟩:=List.mem_iff_getElem.1 hr
 have e2:nth (dz m s o).roads j=(dz m s o).roads[j]:=bD (aLc hj)
 rw[← e2]
 rw[vF]at hj
 rw[D7 hs ho hj]
 have hx:(nth m.roads j).ok m.aa.length:=h.rs _ (ai hj)
 obtain⟨a1,a2,a3,a4,a5,a6,a7,a8,a9,b1,b2,b3,b4,b5,b6⟩:=hx
 split
 · exact⟨a1,a2,a3,a4,a5,a6,a7,a8,a9,b1,b2,b3,b4,b5,b6⟩
 · split
   · exact⟨a1,a2,a3,a4,a5,a6,a7,a8,a9,b1,b2,b3,b4,b5,b6⟩
   · exact⟨a1,a2,a3,a4,a5,a6,a7,a8,a9,b1,b2,b3,b4,b5,b6⟩
theorem QZ(o:List Int)(ho:o.length≤1000000)(x:Int):aH 0 N.bL [I x,.bp 0 0] [.box [.t (tL o)]]=some (B (decide (x∈o)),[.box [.t (tL o)]]):=by
 refine av K.kF rfl ?_
 have cn:=oX o x (by omega)
 simp(disch:=omega)only[go_sem,K.bL,↓reduceIte,cn,reduceAdd,reduceSub]
abbrev ab6(l:List Road):Obj:= .arr 10 false 0 ((l.map Road.e).map .t)
theorem Lu(L:List Road)(j:Nat)(x:Road)(t:T)(h:x.e=t):(List.map D.t (List.map Road.e L)).set j (D.t t)=List.map D.t (List.map Road.e (L.set j x)):=by
 simp only[List.map_set,h]
theorem aeS(rs:List Road)(pl:List Place)(l o:List Int)(hr:rs.length≤1000)(hl:l.length≤1000)(hm:∀x∈l,0≤x∧x<rs.length)(m:aC)(z0 z1 z2 z3 z6 z7 z9 z10 z14 z15 z16:D):
 exS aH K.pj ⟨[z0,z1,z2,z3,.bp 1 0,.bp 2 0,z6,z7,.bp 3 0,z9,z10,.t (tL l),I l.length,I 0,z14,z15,z16],[.box (ae m),.box [.t (tL o)],.box [.nil,.nil],.box [.t (.sl (pl.map Place.e)),.ref 4 0 rs.length],ab6 rs]⟩=
  some (.exit 1,⟨[.und,.und,.und,.und,.bp 1 0,.bp 2 0,.und,.und,.bp 3 0,.und,.und,.t (tL l),I l.length,I l.length,.und,.und,.und],[.box (ae m),.box [.t (tL o)],.box [.nil,.nil],.box [.t (.sl (pl.map Place.e)),.ref 4 0 rs.length],ab6 (clN rs l true l.length)]⟩):=by
 refine bz (fun j=>⟨[.und,.und,.und,.und,.bp 1 0,.bp 2 0,.und,.und,.bp 3 0,.und,.und,.t (tL l),I l.length,I j,.und,.und,.und],[.box (ae m),.box [.t (tL o)],.box [.nil,.nil],.box [.t (.sl (pl.map Place.e)),.ref 4 0 rs.length],ab6 (clN rs l true j)]⟩) l.length (by simp only[go_sem,clN]) ?_ ?_ (by simp)
 · intro j hj
   have ln:=pA rs l true j
   have hx:=hm _ (ai hj)
   simp only[clN]
   generalize clN rs l true j=L at*
   generalize hy:nth L (nth l j).toNat=y at*
   obtain⟨frm,to,len,ar,walk,closed,rl,rh,ll,lh⟩:=y
   simp(disch:=omega)only[go_sem,K.kC,↓reduceIte,hy,Lu L (nth l j).toNat ⟨frm,to,len,ar,walk,true,rl,rh,ll,lh⟩ _ rfl,reduceAdd,reduceSub]
   rfl
 · have ln:=pA rs l true l.length
   generalize clN rs l true l.length=L at*
   simp(disch:=omega)only[go_sem,K.kC,↓reduceIte,reduceAdd,reduceSub]
theorem aeT(rs:List Road)(pl:List Place)(l o:List Int)(hr:rs.length≤1000)(hl:l.length≤1000)(hm:∀x∈l,0≤x∧x<rs.length)(m:aC)(z0 z1 z2 z3 z4 z6 z7 z9 z10 z11 z12 z13:D):
 exS aH K.pn ⟨[z0,z1,z2,z3,z4,.bp 2 0,z6,z7,.bp 3 0,z9,z10,z11,z12,z13,.t (tL l),I l.length,I 0],[.box (ae m),.box [.t (tL o)],.box [.nil,.nil],.box [.t (.sl (pl.map Place.e)),.ref 4 0 rs.length],ab6 rs]⟩=
  some (.exit 3,⟨[.und,.und,.und,.und,.und,.bp 2 0,.und,.und,.bp 3 0,.und,.und,.und,.und,.und,.t (tL l),I l.length,I l.length],[.box (ae m),.box [.t (tL o)],.box [.nil,.nil],.box [.t (.sl (pl.map Place.e)),.ref 4 0 rs.length],ab6 (clN rs l false l.length)]⟩):=by
 refine bz (fun j=>⟨[.und,.und,.und,.und,.und,.bp 2 0,.und,.und,.bp 3 0,.und,.und,.und,.und,.und,.t (tL l),I l.length,I j],[.box (ae m),.box [.t (tL o)],.box [.nil,.nil],.box [.t (.sl (pl.map Place.e)),.ref 4 0 rs.length],ab6 (clN rs l false j)]⟩) l.length (by simp only[go_sem,clN]) ?_ ?_ (by simp)
 · intro j hj
   have ln:=pA rs l false j
   have hx:=hm _ (ai hj)
   simp only[clN]
   generalize clN rs l false j=L at*
   generalize hy:nth L (nth l j).toNat=y at*
   obtain⟨frm,to,len,ar,walk,closed,rl,rh,ll,lh⟩:=y
   simp(disch:=omega)only[go_sem,K.kD,↓reduceIte,hy,Lu L (nth l j).toNat ⟨frm,to,len,ar,walk,false,rl,rh,ll,lh⟩ _ rfl,reduceAdd,reduceSub]
   rfl
 · have ln:=pA rs l false l.length
   generalize clN rs l false l.length=L at*
   simp(disch:=omega)only[go_sem,K.kD,↓reduceIte,reduceAdd,reduceSub]
theorem CK{m:aC}(hm:m.ok){s o:List Int}(hs:rq s m.roads.length=true)(ho:rq o m.roads.length=true):
 aH 0 N.bK [.t m.e,.t (tL s),.t (tL o)] []=some (if s.any (fun x=>decide (x∈o))=true then .tup [.t (aC.e ⟨[],[]⟩),I 4]else .tup [.t (dz m s o).e,I 0],[]):=by
 refine av K.mI rfl ?_
 have np:=hm.np
 have nr:=hm.nr
 have pv:=jk hm
 have sl:=pP hs
 have ol:=pP ho
 have r1:=qW s 0 (m.roads.length-1) (by omega)
 have r2:=qW o 0 (m.roads.length-1) (by omega)
 rw[zA,hs]at r1
 rw[zA,ho]at r2
 have cf:=uf s (by omega) N.bL [[tL o]] (fun x=>decide (x∈o)) (fun x _=>QZ o (by omega) x)
 have cf:aH 0 N.aK [.t (tL s),.fn N.bL [.bp 0 0]] [.box [.t (tL o)]]=some (B (s.any (fun x=>decide (x∈o))),[.box [.t (tL o)]]):=cf
 have k1:=MK m.aa (by omega)
 have k2:=ML m.roads (by omega)
 have l1:=aeS m.roads m.aa s o (by omega) (by omega) (pW hs) m
 have cl:=pA m.roads s true s.length
 have l2:=aeT (clN m.roads s true s.length) m.aa o o (by omega) (by omega) (by rw[cl];exact pW ho) m
 have cl2:=pA (clN m.roads s true s.length) o false o.length
 rw[cl]at cl2 l2
 unfold dz
 generalize s.any (fun x=>decide (x∈o))=c at*
 generalize clN (clN m.roads s true s.length) o false o.length=R2 at*
 generalize clN m.roads s true s.length=R1 at*
 obtain⟨aa,roads⟩:=m
 simp only[ae]at*
 cases c with
 | true=>
   rw[if_pos rfl]
   simp(disch:=omega)only[go_sem,K.bK,↓reduceIte,pv,r1,r2,cf,Bool.not_true,reduceAdd,reduceSub]
   rfl
 | false=>
   rw[if_neg (by simp)]
   simp(disch:=omega)only[go_sem,K.bK,↓reduceIte,pv,r1,r2,cf,Bool.not_true,k1,k2,reduceAdd,reduceSub]
   refine ig (l1 _ _ _ _ _ _ _ _ _ _ _) ?_
   simp(disch:=omega)only[go_sem,K.bK,↓reduceIte,reduceAdd,reduceSub]
   refine ig (l2 _ _ _ _ _ _ _ _ _ _ _ _) ?_
   simp(disch:=omega)only[go_sem,K.bK,↓reduceIte,reduceAdd,reduceSub]
theorem Ua(m:aC)(hp:m.aa.length≤1000000)(hr:m.roads.length≤1000000):aH 0 N.eE [.t m.e,.t m.e] []=some (B true,[]):=by
 refine av K.nQ rfl ?_
 have l1:∀z0 z1 z4 z6:D,exS aH K.qX ⟨[z0,z1,.bp 0 0,.bp 1 0,z4,I 0,z6],[.box (ae m),.box (ae m)]⟩=
  some (.exit 0,⟨[.und,.und,.bp 0 0,.bp 1 0,.und,I m.aa.length,.und],[.box (ae m),.box (ae m)]⟩):=by
  intro z0 z1 z4 z6
  refine bz (fun j=>⟨[.und,.und,.bp 0 0,.bp 1 0,.und,I j,.und],[.box (ae m),.box (ae m)]⟩) m.aa.length rfl ?_ ?_ (by simp)
  · intro j hj
    have ex:(m.aa.map Place.e)[j]?=some (nth m.aa j).e:=bR _ hj
    generalize nth m.aa j=x at*
    obtain⟨h,s⟩:=x
    obtain⟨aa,roads⟩:=m
    simp only[ae]at*
    simp(disch:=omega)only[go_sem,K.mz,↓reduceIte,ex,decide_true,Bool.and_self,Bool.not_true,reduceAdd,reduceSub]
  · obtain⟨aa,roads⟩:=m
    simp only[ae]at*
    simp(disch:=omega)only[go_sem,K.mz,↓reduceIte,reduceAdd,reduceSub]
 have l2:∀z0 z1 z4 z5:D,exS aH K.qY ⟨[z0,z1,.bp 0 0,.bp 1 0,z4,z5,I 0],[.box (ae m),.box (ae m)]⟩=
  some (.exit 2,⟨[.und,.und,.bp 0 0,.bp 1 0,.und,.und,I m.roads.length],[.box (ae m),.box (ae m)]⟩):=by
  intro z0 z1 z4 z5
  refine bz (fun j=>⟨[.und,.und,.bp 0 0,.bp 1 0,.und,.und,I j],[.box (ae m),.box (ae m)]⟩) m.roads.length rfl ?_ ?_ (by simp)
  · intro j hj
    have ex:(m.roads.map Road.e)[j]?=some (nth m.roads j).e:=bR _ hj
    generalize nth m.roads j=x at*
    obtain⟨frm,to,len,ar,walk,closed,rl,rh,ll,lh⟩:=x
    obtain⟨aa,roads⟩:=m
    simp only[ae]at*
    simp(disch:=omega)only[go_sem,K.mA,↓reduceIte,ex,decide_true,Bool.and_self,Bool.not_true,reduceAdd,reduceSub]
  · obtain⟨aa,roads⟩:=m
    simp only[ae]at*
    simp(disch:=omega)only[go_sem,K.mA,↓reduceIte,reduceAdd,reduceSub]
 obtain⟨aa,roads⟩:=m
 simp only[ae]at*
 simp(disch:=omega)only[go_sem,K.eE,↓reduceIte,l1,l2,reduceAdd,reduceSub]
theorem Q0{d:aF}(hd:d.dY)(k n:Int)(h0:0≤k)(hk:k≤1000)(h1:1≤n)(hn:n≤1000):
 ∃(b:Bool) (d2:aF) (x:Int) (d3:aF),aH 0 N.cB [.bp 0 0,I k] [d.obj]=some (B b,[d2.obj])∧(b=true∧aH 0 N.aB [.bp 0 0,I n] [d2.obj]=some (I x,[d3.obj])∨b=false∧d2=d3)∧d3.dY∧0≤x∧x<n:=by
 obtain⟨b,d2,c2,l2⟩:=ai7 hd k h0 (by omega)
 obtain⟨x,d3,c3,l3,x0,x1⟩:=PL l2 n h1 (by omega)
 cases b with
 | true=>exact⟨true,d2,x,d3,c2,.inl ⟨rfl,c3⟩,l3,x0,x1⟩
 | false=>exact⟨false,d2,x,d2,c2,.inr ⟨rfl,rfl⟩,l2,x0,x1⟩
theorem CL{b:Bool}{x n:Int}(h0:0≤x)(h1:x<n):rq (if b=true then [x]else []) n=true:=by
 cases b with
 | true=>exact VI h0 h1
 | false=>rfl
theorem Ub{d:aF}(hd:d.dY){m:aC}(hm:m.ok)(h1:1≤m.aa.length)(h2:1≤m.roads.length):
 ∃(e:Esc) (d':aF),aH 0 N.dw [.bp 0 0,.t m.e] [d.obj]=some (.t e.e,[d'.obj])∧d'.dY∧e.ok m∧e.b9≤1000∧e.safe.length≤1∧e.bad.length≤1∧e.shut.length≤1:=by
 have np:=hm.np
 have nr:=hm.nr
 obtain⟨lim,d1,c1,l1,m1⟩:=aj9 hd [600,100,60,1000,0] (by simp) (by simp)
 have lm:0≤lim∧lim≤1000:=by
  simp only[List.mem_cons,List.not_mem_nil,or_false]at m1
  omega
 have c1:aH 0 N.cK [.bp 0 0,.t (.sl [tI 600,tI 100,tI 60,tI 1000,tI 0])] [d.obj]=some (I lim,[d1.obj]):=c1
 obtain⟨b1,d2,x1,d3,a1,a2,l3,x10,x11⟩:=Q0 l1 3 m.aa.length (by omega) (by omega) (by omega) (by omega)
 obtain⟨b2,d4,x2,d5,a4,a5,l5,x20,x21⟩:=Q0 l3 4 m.aa.length (by omega) (by omega) (by omega) (by omega)
 obtain⟨b3,d6,x3,d7,a7,a8,l7,x30,x31⟩:=Q0 l5 4 m.roads.length (by omega) (by omega) (by omega) (by omega)
 refine⟨⟨if b1=true then [x1]else [],if b2=true then [x2]else [],if b3=true then [x3]else [],lim⟩,d7,?_,l7,⟨CL x10 x11,CL x20 x21,CL x30 x31,lm.1,by simp only;omega⟩,lm.2,?_,?_,?_⟩
 · refine av K.mH rfl ?_
   obtain⟨aa,roads⟩:=m
   simp only[ae]at*
   have r0:(0:Int)<roads.length:=by omega
   rcases a2 with⟨rfl,a2⟩ | ⟨rfl,a2⟩<;>rcases a5 with⟨rfl,a5⟩ | ⟨rfl,a5⟩<;>rcases a8 with⟨rfl,a8⟩ | ⟨rfl,a8⟩
   all_goals
    simp(disch:=omega)only[go_sem,K.dw,↓reduceIte,c1,a1,a2,a4,a5,a7,a8,r0,reduceAdd,reduceSub]
    rfl
 · cases b1<;>simp
 · cases b2<;>simp
 · cases b3<;>simp
def ab7(s o:List Int):Bool:=s.any fun x=>decide (x∈o)
end Go.Ev
namespace Go.Ev
open Go
variable [Lib] [bX] [bJ] [fR] [fS] [iK] [fy] [fo] [gU] [fM] [cV] [cI] [fB] [eu]
def rnN(m:aC)(t:Int)(l:List Wh):Nat→List Wh
 | 0=>l
 | j+1=>(rnN m t l j).set j (cO m (nth l j) t).1
def rnE(m:aC)(t:Int)(l:List Wh)(e:Int):Nat→Int
 | 0=>e
 | j+1=>if rnE m t l e j=0 then(cO m (nth l j) t).2 else rnE m t l e j
theorem Ff(m:aC)(t:Int)(l:List Wh):∀j,(rnN m t l j).length=l.length
 | 0=>rfl
 | j+1=>by simp only[rnN,List.length_set,Ff m t l j]
theorem VW(m:aC)(t:Int)(l:List Wh):∀j,j≤l.length→rnN m t l j=(l.take j).map (fun w=>(cO m w t).1)++l.drop j
 | 0,_=>by simp[rnN]
 | j+1,h=>by
   rw[rnN,VW m t l j (by omega),ox (by omega:j<l.length),List.map_append]
   have e:l.drop j=nth l j::l.drop (j+1):=by rw[List.drop_eq_getElem_cons (by omega),bD (aLc (by omega:j<l.length))]
   rw[e,List.set_append_right _ _ (by simp;omega)]
   simp
   rw[show j-min j l.length=0 by omega];rfl
theorem Q3(m:aC)(t:Int)(l:List Wh):rnN m t l l.length=l.map fun w=>(cO m w t).1:=by
 rw[VW m t l l.length (aLs _)];simp
def rnW(m:aC)(t:Int)(x:World):World:=⟨x.tags,x.whr.map fun w=>(cO m w t).1⟩
def rnX(m:aC)(t:Int)(ws:List World)(e:Int):Nat→Int
 | 0=>e
 | j+1=>rnE m t (nth ws j).whr (rnX m t ws e j) (nth ws j).whr.length
abbrev rvV(ws:List World)(whr:List Wh)(n:Nat)(t e:Int)(i:Int)(j:Int):List D:=[.und,.und,I t,.bp 0 0,.bp 1 0,.bp 2 0,.und,.bp 3 0,I e,.und,.bp 8 0,.und,.und,.und,.und,.t (.sl (ws.map World.e)),I ws.length,I i,.t (.sl (whr.map Wh.e)),I n,I j]
abbrev rvH(m:aC)(ws out:List World)(x0 x1:T)(tags:List Int)(q:List Wh):aq:=[.box (ae m),.box [.t (.sl (ws.map World.e))],.box [.nil],.box [.ref 4 0 out.length],.arr 2 false 0 ((out.map World.e).map .t),.box [.t x0,.t x1],.arr 1 false 0 ((tags.map (T.int .i64)).map .t),.arr 2 false 0 ((q.map Wh.e).map .t),.box [.ref 6 0 tags.length,.ref 7 0 q.length]]
theorem Q4{m:aC}(h:m.ok)(ws out:List World)(x0 x1:T)(tags:List Int)(whr q:List Wh)(hq:q.length=whr.length)(hl:whr.length≤1000000)(t e i:Int)(j:Nat)(hj:j<whr.length)(hz:(nth whr j).frm.length≤1000000):
 ((cO m (nth whr j) t).2≠6→gp true [0,1,6,9,11,12,13,14] 9 (exS aH K.gk ⟨rvV ws whr whr.length t e i j,rvH m ws out x0 x1 tags q⟩)=
   some ⟨rvV ws whr whr.length t (if e=0 then(cO m (nth whr j) t).2 else e) i (j+1),rvH m ws out x0 x1 tags (q.set j (cO m (nth whr j) t).1)⟩)∧
 ((cO m (nth whr j) t).2=6→∃vs H,exS aH K.gk ⟨rvV ws whr whr.length t e i j,rvH m ws out x0 x1 tags q⟩=some (.ret,⟨vs,H⟩)∧vs[5]?=some (.bp 2 0)∧vs[6]?=some (I 6)∧H[2]?=some (.box [.t (.sl (ws.map World.e))])):=by
 have g:=Py h (nth whr j) t hz
 have ex:(whr.map Wh.e)[j]?=some (nth whr j).e:=bR _ hj
 generalize cO m (nth whr j) t=r at*
 obtain⟨⟨t1,f1⟩,code⟩:=r
 generalize nth whr j=x at*
 obtain⟨tx,fx⟩:=x
 obtain⟨aa,roads⟩:=m
 simp only[ae,rvV,rvH]at*
 constructor
 · intro c6
   by_cases e0:e=0
   · subst e0
     simp(disch:=omega)only[go_sem,K.gk,↓reduceIte,g,ex,c6,List.length_set,reduceAdd,reduceSub]
   · simp(disch:=omega)only[go_sem,K.gk,↓reduceIte,g,ex,c6,e0,List.length_set,reduceAdd,reduceSub]
 · intro c6
   subst c6
   simp(disch:=omega)only[go_sem,K.gk,↓reduceIte,g,ex,reduceAdd,reduceSub]
   exact⟨_,_,rfl,rfl,rfl,rfl⟩
def rn6(m:aC)(t:Int)(l:List Wh)(j:Nat):Bool:=decide ((cO m (nth l j) t).2=6)
theorem ajh{m:aC}(h:m.ok)(ws out:List World)(x0 x1:T)(tags:List Int)(whr:List Wh)(hl:whr.length≤1000000)(hz:∀w∈whr,w.frm.length≤1000000)(t e i:Int)(z9 z11 z12 z13 z14 z6 z0 z1:D):
 ((List.range whr.length).find? (rn6 m t whr)=none∧exS aH K.qp ⟨[z0,z1,I t,.bp 0 0,.bp 1 0,.bp 2 0,z6,.bp 3 0,I e,z9,.bp 8 0,z11,z12,z13,z14,.t (.sl (ws.map World.e)),I ws.length,I i,.t (.sl (whr.map Wh.e)),I whr.length,I 0],rvH m ws out x0 x1 tags whr⟩=
   some (.exit 2,⟨rvV ws whr whr.length t (rnE m t whr e whr.length) i whr.length,rvH m ws out x0 x1 tags (whr.map fun w=>(cO m w t).1)⟩))∨
 ∃j q,(List.range whr.length).find? (rn6 m t whr)=some j∧exS aH K.qp ⟨[z0,z1,I t,.bp 0 0,.bp 1 0,.bp 2 0,z6,.bp 3 0,I e,z9,.bp 8 0,z11,z12,z13,z14,.t (.sl (ws.map World.e)),I ws.length,I i,.t (.sl (whr.map Wh.e)),I whr.length,I 0],rvH m ws out x0 x1 tags whr⟩=some q∧
  q.1= .ret∧q.2.vs[5]?=some (.bp 2 0)∧q.2.vs[6]?=some (I 6)∧q.2.H[2]?=some (.box [.t (.sl (ws.map World.e))]):=by
 have ln:=Ff m t whr
 have lp:=ny (gc:=true) (dead:=[0,1,6,9,11,12,13,14]) (c:=K.gk)
  (vs:=[z0,z1,I t,.bp 0 0,.bp 1 0,.bp 2 0,z6,.bp 3 0,I e,z9,.bp 8 0,z11,z12,z13,z14,.t (.sl (ws.map World.e)),I ws.length,I i,.t (.sl (whr.map Wh.e)),I whr.length,I 0]) (H:=rvH m ws out x0 x1 tags whr)
  (fun j=>⟨rvV ws whr whr.length t (rnE m t whr e j) i j,rvH m ws out x0 x1 tags (rnN m t whr j)⟩) whr.length (rn6 m t whr)
  (fun _ q=>q.1= .ret∧q.2.vs[5]?=some (.bp 2 0)∧q.2.vs[6]?=some (I 6)∧q.2.H[2]?=some (.box [.t (.sl (ws.map World.e))]))
  (.exit 2,⟨rvV ws whr whr.length t (rnE m t whr e whr.length) i whr.length,rvH m ws out x0 x1 tags (rnN m t whr whr.length)⟩) rfl
  (fun j hj hq=>(Q4 h ws out x0 x1 tags whr _ (ln j) hl t _ i j hj (hz _ (ai hj))).1 (by simpa [rn6]using hq))
  (fun j hj hq=>by
   obtain⟨vs,H,a,b⟩:=(Q4 h ws out x0 x1 tags whr _ (ln j) hl t (rnE m t whr e j) i j hj (hz _ (ai hj))).2 (by simpa [rn6]using hq)
   exact⟨_,a,by simp,rfl,b⟩)
  (by
   have:=ln whr.length
   generalize rnN m t whr whr.length=L at*
   generalize rnE m t whr e whr.length=E at*
   simp(disch:=omega)only[go_sem,K.gk,↓reduceIte,rvV,rvH,reduceAdd,reduceSub]) (by simp)
 rw[Q3]at lp
 exact lp
def rx6(m:aC)(t:Int)(ws:List World)(i:Nat):Bool:=((List.range (nth ws i).whr.length).find? (rn6 m t (nth ws i).whr)).isSome
abbrev rwV(ws:List World)(t e:Int)(i:Int):List D:=[.und,.und,I t,.bp 0 0,.bp 1 0,.bp 2 0,.und,.bp 3 0,I e,.und,.und,.und,.und,.und,.und,.t (.sl (ws.map World.e)),I ws.length,I i,.und,.und,.und]
abbrev rwH(m:aC)(ws out:List World):aq:=[.box (ae m),.box [.t (.sl (ws.map World.e))],.box [.nil],.box [.ref 4 0 out.length],.arr 2 false 0 ((out.map World.e).map .t)]
theorem Q5{m:aC}(h:m.ok)(ws out:List World)(hw:ws.length≤1000000)(ho:out.length≤1000000)(t e:Int)(i:Nat)(hi:i<ws.length)(hz:(nth ws i).sz):
 (rx6 m t ws i=false→gp true [0,1,6,9,10,11,12,13,14,18,19,20] 5 (exS aH K.hX ⟨rwV ws t e i,rwH m ws out⟩)=
  some ⟨rwV ws t (rnE m t (nth ws i).whr e (nth ws i).whr.length) (i+1),rwH m ws (out++[rnW m t (nth ws i)])⟩)∧
 (rx6 m t ws i=true→∃q,exS aH K.hX ⟨rwV ws t e i,rwH m ws out⟩=some q∧q.1= .ret∧q.2.vs[5]?=some (.bp 2 0)∧q.2.vs[6]?=some (I 6)∧q.2.H[2]?=some (.box [.t (.sl (ws.map World.e))])):=by
 have ex:(ws.map World.e)[i]?=some (nth ws i).e:=bR _ hi
 have cw:=Tq (nth ws i) hz
 obtain⟨z1,z2,z3⟩:=hz
 have inn:=ajh h ws out (tL (nth ws i).tags) (.sl ((nth ws i).whr.map Wh.e)) (nth ws i).tags (nth ws i).whr z2 z3 t e i (.bp 5 0) .und .und .und .und .und .und .und
 unfold rx6
 constructor
 · intro hf
   rcases inn with⟨e1,e2⟩ | ⟨j,q,e1, -⟩
   · clear hf e1
     unfold rnW
     have ln:(((nth ws i).whr.map fun w=>(cO m w t).1)).length=(nth ws i).whr.length:=by simp
     generalize (nth ws i).whr.map (fun w=>(cO m w t).1)=r at*
     generalize rnE m t (nth ws i).whr e (nth ws i).whr.length=e' at*
     generalize nth ws i=x at*
     obtain⟨tags,whr⟩:=x
     obtain⟨aa,roads⟩:=m
     simp only[ae,rwV,rwH,rvV,rvH]at*
     simp(disch:=omega)only[go_sem,K.hX,↓reduceIte,ex,cw,e2,ln,reduceAdd,reduceSub]
   · rw[e1]at hf;simp at hf
 · intro hf
   rcases inn with⟨e1,e2⟩ | ⟨j,⟨x,vs,H⟩,e1,e2,e3,e4,e5,e6⟩
   · rw[e1]at hf;simp at hf
   · clear hf e1
     simp only at e3 e4 e5 e6
     subst e3
     generalize nth ws i=x at*
     obtain⟨tags,whr⟩:=x
     obtain⟨aa,roads⟩:=m
     simp only[ae,rwV,rwH,rvV,rvH]at*
     simp(disch:=omega)only[go_sem,K.hX,↓reduceIte,ex,cw,e2,reduceAdd,reduceSub]
     exact⟨_,rfl,rfl,e4,e5,e6⟩
def cy(m:aC)(b:Bel)(t:Int):Bel×Int:=
 if b.ao.length<1∨24<b.ao.length then(b,6)else match (List.range b.ao.length).find? (rx6 m t b.ao)with
  | some _=>(b,6)
  | none=>if rnX m t b.ao 0 b.ao.length≠0 then(b,rnX m t b.ao 0 b.ao.length)else(⟨b.ao.map (rnW m t)⟩,0)
def RZ(m:aC)(t:Int)(ws:List World):Nat→List World
 | 0=>[]
 | j+1=>RZ m t ws j++[rnW m t (nth ws j)]
theorem JD(m:aC)(t:Int)(ws:List World):∀j,j≤ws.length→RZ m t ws j=(ws.take j).map (rnW m t)
 | 0,_=>rfl
 | j+1,h=>by rw[RZ,JD m t ws j (by omega),ox (by omega),List.map_append];rfl
theorem Q6{m:aC}(h:m.ok)(b:Bel)(hs:b.sz)(t:Int):
 aH 0 N.fJ [.t m.e,.t b.e,I t] []=some (.tup [.t (cy m b t).1.e,I (cy m b t).2],[]):=by
 refine av K.sB rfl ?_
 have va:=jk h
 have li:=C3 (b.ao.length:Int) 1 24
 obtain⟨ws⟩:=b
 obtain⟨s1,s2⟩:=hs
 unfold cy
 simp only at s1 s2 li ⊢
 by_cases c:ws.length<1∨24<ws.length
 · rw[decide_eq_false (by omega)]at li
   rw[if_pos c]
   obtain⟨aa,roads⟩:=m
   simp only[ae]at*
   simp(disch:=omega)only[go_sem,K.fJ,↓reduceIte,va,li,reduceAdd,reduceSub]
 · rw[decide_eq_true (by omega)]at li
   rw[if_neg c]
   have ln:∀j,j≤ws.length→(RZ m t ws j).length=j:=fun j hj=>by rw[JD m t ws j hj];simp;omega
   have lp:=fun z0 z1 z6 z9 z10 z11 z12 z13 z14 z18 z19 z20=>ny (gc:=true) (dead:=[0,1,6,9,10,11,12,13,14,18,19,20]) (c:=K.hX)
    (vs:=[z0,z1,I t,.bp 0 0,.bp 1 0,.bp 2 0,z6,.bp 3 0,I 0,z9,z10,z11,z12,z13,z14,.t (.sl (ws.map World.e)),I ws.length,I 0,z18,z19,z20]) (H:=rwH m ws [])
    (fun i=>⟨rwV ws t (rnX m t ws 0 i) i,rwH m ws (RZ m t ws i)⟩) ws.length (rx6 m t ws)
    (fun _ q=>q.1= .ret∧q.2.vs[5]?=some (.bp 2 0)∧q.2.vs[6]?=some (I 6)∧q.2.H[2]?=some (.box [.t (.sl (ws.map World.e))]))
    (.exit 0,⟨rwV ws t (rnX m t ws 0 ws.length) ws.length,rwH m ws (RZ m t ws ws.length)⟩) rfl
    (fun j hj hq=>(Q5 h ws _ s1 (by rw[ln j (by omega)];omega) t (rnX m t ws 0 j) j hj (s2 _ (ai hj))).1 hq)
    (fun j hj hq=>by
     obtain⟨q,a,b,c⟩:=(Q5 h ws (RZ m t ws j) s1 (by rw[ln j (by omega)];omega) t (rnX m t ws 0 j) j hj (s2 _ (ai hj))).2 hq
     exact⟨q,a,by rw[b];simp,b,c⟩)
    (by
     have:=ln ws.length (aLs _)
     generalize RZ m t ws ws.length=L at*
     generalize rnX m t ws 0 ws.length=E at*
     simp(disch:=omega)only[go_sem,K.hX,↓reduceIte,rwV,rwH,reduceAdd,reduceSub]) (by simp)
   have lp':∀z0 z1 z6 z9 z10 z11 z12 z13 z14 z18 z19 z20,_∨_:=lp
   clear lp
   rcases lp' .und .und .und .und .und .und .und .und .und .und .und .und with⟨e1, -⟩ | ⟨j, -,e1, -⟩
   · rw[e1]
     have e2:∀z0 z1 z6 z9 z10 z11 z12 z13 z14 z18 z19 z20:D,exS aH K.qq ⟨[z0,z1,I t,.bp 0 0,.bp 1 0,.bp 2 0,z6,.bp 3 0,I 0,z9,z10,z11,z12,z13,z14,.t (.sl (ws.map World.e)),I ws.length,I 0,z18,z19,z20],rwH m ws []⟩=some (.exit 0,⟨rwV ws t (rnX m t ws 0 ws.length) ws.length,rwH m ws (RZ m t ws ws.length)⟩):=fun z0 z1 z6 z9 z10 z11 z12 z13 z14 z18 z19 z20=>by
      rcases lp' z0 z1 z6 z9 z10 z11 z12 z13 z14 z18 z19 z20 with⟨-,e⟩ | ⟨j,q,e3, -⟩
      · exact e
      · rw[e1]at e3;cases e3
     have l2:=ln ws.length (aLs _)
     have rw_:=JD m t ws ws.length (aLs _)
     rw[List.take_length]at rw_
     rw[← rw_]
     clear lp' e1 rw_
     generalize RZ m t ws ws.length=L at*
     generalize rnX m t ws 0 ws.length=E at*
     obtain⟨aa,roads⟩:=m
     simp only[ae,rwV,rwH,List.map_nil,List.length_nil]at*
     by_cases c0:E=0
     · subst c0
       simp(disch:=omega)only[go_sem,K.fJ,↓reduceIte,va,li,e2,reduceAdd,reduceSub]
     · simp(disch:=omega)only[go_sem,K.fJ,↓reduceIte,va,li,e2,c0,ne_eq,not_false_eq_true,reduceAdd,reduceSub]
   · rw[e1]
     obtain⟨q,e2,e3,e4,e5,e6⟩:∃q,exS aH K.qq ⟨[.t m.e,.t (Bel.e ⟨ws⟩),I t,.bp 0 0,.bp 1 0,.bp 2 0,I 0,.bp 3 0,I 0,.und,.und,.und,.und,.und,.und,.t (.sl (ws.map World.e)),I ws.length,I 0,.und,.und,.und],rwH m ws []⟩=some q∧q.1= .ret∧q.2.vs[5]?=some (.bp 2 0)∧q.2.vs[6]?=some (I 6)∧q.2.H[2]?=some (.box [.t (.sl (ws.map World.e))]):=by
      rcases lp' (.t m.e) (.t (Bel.e ⟨ws⟩)) (I 0) .und .und .und .und .und .und .und .und .und with⟨e, -⟩ | ⟨j2,q, -,e3,e4⟩
      · rw[e1]at e;cases e
      · exact⟨q,e3,e4⟩
     clear lp' e1
     obtain⟨x,vs,H⟩:=q
     simp only at e3 e4 e5 e6
     subst e3
     obtain⟨aa,roads⟩:=m
     simp only[ae,rwV,rwH,List.map_nil,List.length_nil]at*
     simp(disch:=omega)only[go_sem,K.fJ,↓reduceIte,va,li,e2,e4,e5,e6,reduceAdd,reduceSub]
end Go.Ev
