/- Parts of the proof: see the text that holds the theorem. -/
import Derived.Test.YtifghciaddehaaaGreatZ5
set_option linter.all false
open Nat (reduceAdd reduceSub)
namespace Go.Ev
open Go
variable [Lib] [cu] [bM] [gu] [gk] [i7] [fK] [fI] [iv] [gj] [dq] [cT] [fT] [ff] [jA] [iY] [gC] [eC] [jL]
def GL(s o:List Int):Bool:=s.any fun x=>decide (x∈o)
theorem Vf(s o:List Int){j:Nat}(hj:j<s.length):GL (s.take (j+1)) o=(GL (s.take j) o||decide (nth s j∈o)):=by
 unfold GL
 rw[List.take_succ,cG hj,List.any_append]
 simp
def Mp(rs:List Road)(R:List Road)(j:Nat):List Road:=R.take j++rs.drop j
theorem Vg{rs R:List Road}(h:R.length=rs.length)(j:Nat):(Mp rs R j).length=rs.length:=by
 unfold Mp;rw[aLv,List.length_take,List.length_drop];omega
theorem Vh{rs R:List Road}(h:R.length=rs.length){j:Nat}(hj:j<rs.length):nth (Mp rs R j) j=nth rs j:=by
 unfold Mp nth
 rw[aLl,aLh (by rw[List.length_take];omega),List.length_take,Nat.min_eq_left (by omega),Nat.sub_self,List.getElem?_drop,aLl]
 rfl
theorem Vi{rs R:List Road}(h:R.length=rs.length){j:Nat}(hj:j<rs.length):(Mp rs R j).set j (nth R j)=Mp rs R (j+1):=by
 unfold Mp
 have e:rs.drop j=nth rs j::rs.drop (j+1):=by rw[List.drop_eq_getElem_cons (by omega),bC (aLc (by omega:j<rs.length))]
 rw[List.take_succ,cG (by omega)]
 rw[List.set_append_right _ _ (by rw[List.length_take];omega),List.length_take,Nat.min_eq_left (by omega),Nat.sub_self,e]
 simp
theorem aaP{m:aB}{s o:List Int}(hs:lr s m.roads.length=true)(ho:lr o m.roads.length=true)(hd:GL s o=false){p:Nat}(hp:p<m.roads.length):
 nth (bY m s o).roads p=clR (nth m.roads p) (decide ((p:Int)∈s)||((nth m.roads p).closed&& !decide ((p:Int)∈o))):=by
 rw[EO hs ho hp]
 have nd:(p:Int)∈s→(p:Int)∉o:=by
  intro a b
  have:GL s o=true:=List.any_eq_true.2 ⟨_,a,decide_eq_true b⟩
  rw[this]at hd;cases hd
 generalize nth m.roads p=x
 by_cases c:(p:Int)∈o
 · have c2:(p:Int)∉s:=fun a=>nd a c
   rw[if_pos c,decide_eq_true c,decide_eq_false c2,Bool.not_true,Bool.and_false,Bool.false_or]
 · by_cases c2:(p:Int)∈s
   · rw[if_neg c,if_pos c2,decide_eq_true c2,Bool.true_or]
   · rw[if_neg c,if_neg c2,decide_eq_false c,decide_eq_false c2,Bool.not_false,Bool.and_true,Bool.false_or]
     rfl
theorem RW{m:aB}{s o:List Int}(hm:m.ok)(hs:lr s m.roads.length=true)(ho:lr o m.roads.length=true)(hd:GL s o=false)(z0 z5 z6 z7:D):
 exS aD K.xh ⟨[z0,.t (tL s),.t (tL o),.bp 0 0,.bp 1 0,z5,z6,z7,I 0],[.box [.ref 2 0 m.aa.length,.ref 3 0 m.roads.length],.box [.nil,.nil],.arr 2 false 0 ((m.aa.map Place.e).map .t),.arr 10 false 0 ((m.roads.map Road.e).map .t)]⟩=
  some (.exit 2,⟨[.und,.t (tL s),.t (tL o),.bp 0 0,.bp 1 0,.und,.und,.und,I m.roads.length],[.box [.ref 2 0 m.aa.length,.ref 3 0 m.roads.length],.box [.nil,.nil],.arr 2 false 0 ((m.aa.map Place.e).map .t),.arr 10 false 0 (((bY m s o).roads.map Road.e).map .t)]⟩):=by
 have nr:=hm.nr
 have sl:=i9 hs
 have ol:=i9 ho
 have al:=pt m s o
 have an:=fun p hp=>aaP (p:=p) hs ho hd hp
 have f0:Mp m.roads (bY m s o).roads 0=m.roads:=by simp[Mp]
 have fn:Mp m.roads (bY m s o).roads m.roads.length=(bY m s o).roads:=by
  unfold Mp;rw[List.drop_length,List.append_nil,←al,List.take_length]
 have fl:=fun j=>Vg al j
 have fx:=fun j hj=>Vh (j:=j) al hj
 have fs:=fun j hj=>Vi (j:=j) al hj
 generalize (bY m s o).roads=R at*
 refine bk (fun j=>⟨[.und,.t (tL s),.t (tL o),.bp 0 0,.bp 1 0,.und,.und,.und,I j],[.box [.ref 2 0 m.aa.length,.ref 3 0 m.roads.length],.box [.nil,.nil],.arr 2 false 0 ((m.aa.map Place.e).map .t),.arr 10 false 0 (((Mp m.roads R j).map Road.e).map .t)]⟩) m.roads.length (by rw[f0];simp only[go_sem]) ?_ ?_ (by simp)
 · intro j hj
   have h1:=mI s j (by omega)
   have h2:=mI o j (by omega)
   have ln:=fl j
   have e1:=an j hj
   have e2:=fs j hj
   have g:(((Mp m.roads R j).map Road.e).map D.t)[j]?=some (.t (nth m.roads j).e):=by rw[Fo _ _ (by omega),fx j hj]
   rw[← e2,e1]
   clear e1 e2 f0 fn fl fx fs an
   generalize Mp m.roads R j=L at*
   generalize decide ((j:Int)∈s)=a at*
   generalize decide ((j:Int)∈o)=b at*
   obtain⟨aa,roads⟩:=m
   simp only at*
   generalize nth roads j=x at*
   have hset:((L.set j (clR x (a||(x.closed&& !b)))).map Road.e).map D.t=((L.map Road.e).map D.t).set j (.t (clR x (a||(x.closed&& !b))).e):=by simp
   rw[hset]
   clear hset
   obtain⟨frm,to,len,ar,walk,closed,rl,rh,ll,lh⟩:=x
   simp only[clR]at*
   cases a<;>cases b<;>cases closed
   all_goals simp(disch:=omega)only[go_sem,K.pX,↓reduceIte,g,h1,h2,Ux,Bool.not_true,Bool.not_false,Bool.and_true,Bool.and_false,Bool.false_and,Bool.true_or,Bool.false_or,Bool.and_self,Bool.or_self,reduceAdd,reduceSub]
 · rw[fn]
   simp(disch:=omega)only[go_sem,K.pX,↓reduceIte,reduceAdd,reduceSub]
theorem IC{m:aB}(hm:m.ok){s o:List Int}(hs:lr s m.roads.length=true)(ho:lr o m.roads.length=true):
 aD 0 N.fV [.t m.e,.t (tL s),.t (tL o)] []=some (if GL s o=true then .tup [.t (aB.e ⟨[],[]⟩),I 4]else .tup [.t (bY m s o).e,I 0],[]):=by
 refine ao K.tK rfl ?_
 have ck:=nO hm
 have np:=hm.np
 have nr:=hm.nr
 have sl:=i9 hs
 have ol:=i9 ho
 have s1:=yX s m.roads.length (by omega)
 have s2:=yX o m.roads.length (by omega)
 rw[hs]at s1
 rw[ho]at s2
 have cp:=Ih m (by omega) (by omega)
 have al:=pt m s o
 have l1:∀z0 z5 z8:D,exS aD K.xg ⟨[z0,.t (tL s),.t (tL o),.bp 0 0,.bp 1 0,z5,B false,I 0,z8],[.box (ae m),.box [.nil,.nil]]⟩=
  some (.exit 0,⟨[.und,.t (tL s),.t (tL o),.bp 0 0,.bp 1 0,.und,B (GL (s.take s.length) o),I s.length,.und],[.box (ae m),.box [.nil,.nil]]⟩):=by
  intro z0 z5 z8
  refine bk (fun j=>⟨[.und,.t (tL s),.t (tL o),.bp 0 0,.bp 1 0,.und,B (GL (s.take j) o),I j,.und],[.box (ae m),.box [.nil,.nil]]⟩) s.length rfl ?_ ?_ (by simp)
  · intro j hj
    have hh:=mI o (nth s j) (by omega)
    rw[Vf s o hj]
    generalize GL (s.take j) o=a at*
    generalize decide (nth s j∈o)=b at*
    cases a<;>cases b
    all_goals simp(disch:=omega)only[go_sem,K.pW,↓reduceIte,hh,Bool.or_self,Bool.or_true,Bool.true_or,Bool.false_or,reduceAdd,reduceSub]
  · simp(disch:=omega)only[go_sem,K.pW,↓reduceIte,reduceAdd,reduceSub]
 rw[List.take_length]at l1
 cases hc:GL s o with
 | true=>
   rw[if_pos rfl]
   rw[hc]at l1
   obtain⟨aa,roads⟩:=m
   simp only[ae]at*
   simp(disch:=omega)only[go_sem,K.fV,↓reduceIte,ck,s1,s2,l1,Bool.not_true,reduceAdd,reduceSub]
   rfl
 | false=>
   rw[if_neg (by simp)]
   rw[hc]at l1
   have l2:=RW hm hs ho hc
   have pl:(bY m s o).aa=m.aa:=rfl
   generalize bY m s o=A at*
   obtain⟨pl2,R⟩:=A
   obtain⟨aa,roads⟩:=m
   simp only[ae]at*
   subst pl
   simp(disch:=omega)only[go_sem,K.fV,↓reduceIte,ck,s1,s2,l1,cp,l2,Bool.not_true,reduceAdd,reduceSub]
end Go.Ev
namespace Go.Ev
open Go
variable [Lib] [cu] [bM] [gu] [gk] [i7] [fK] [fI] [iv] [gj] [dq] [cT] [fT] [ff]
def rnN(m:aB)(t:Int)(l:List Wh):Nat→List Wh
 | 0=>l
 | j+1=>(rnN m t l j).set j (dr m (nth l j) t).1
def rnE(m:aB)(t:Int)(l:List Wh)(e:Int):Nat→Int
 | 0=>e
 | j+1=>if rnE m t l e j=0 then(dr m (nth l j) t).2 else rnE m t l e j
theorem F6(m:aB)(t:Int)(l:List Wh):∀j,(rnN m t l j).length=l.length
 | 0=>rfl
 | j+1=>by simp only[rnN,List.length_set,F6 m t l j]
theorem W9(m:aB)(t:Int)(l:List Wh):∀j,j≤l.length→rnN m t l j=(l.take j).map (fun w=>(dr m w t).1)++l.drop j
 | 0,_=>by simp[rnN]
 | j+1,h=>by
   rw[rnN,W9 m t l j (by omega),oV (by omega:j<l.length),List.map_append]
   have e:l.drop j=nth l j::l.drop (j+1):=by rw[List.drop_eq_getElem_cons (by omega),bC (aLc (by omega:j<l.length))]
   rw[e,List.set_append_right _ _ (by simp;omega)]
   simp
   rw[show j-min j l.length=0 by omega];rfl
theorem RX(m:aB)(t:Int)(l:List Wh):rnN m t l l.length=l.map fun w=>(dr m w t).1:=by
 rw[W9 m t l l.length (aLs _)];simp
def rnW(m:aB)(t:Int)(x:World):World:=⟨x.tags,x.whr.map fun w=>(dr m w t).1⟩
def rnX(m:aB)(t:Int)(ws:List World)(e:Int):Nat→Int
 | 0=>e
 | j+1=>rnE m t (nth ws j).whr (rnX m t ws e j) (nth ws j).whr.length
abbrev rvV(ws:List World)(whr:List Wh)(n:Nat)(t e:Int)(i:Int)(j:Int):List D:=[.und,.und,I t,.bp 0 0,.bp 1 0,.bp 2 0,.und,.bp 3 0,I e,.und,.bp 8 0,.und,.und,.und,.und,.t (.sl (ws.map World.e)),I ws.length,I i,.t (.sl (whr.map Wh.e)),I n,I j]
abbrev rvH(m:aB)(ws out:List World)(x0 x1:T)(tags:List Int)(q:List Wh):aq:=[.box (ae m),.box [.t (.sl (ws.map World.e))],.box [.nil],.box [.ref 4 0 out.length],.arr 2 false 0 ((out.map World.e).map .t),.box [.t x0,.t x1],.arr 1 false 0 ((tags.map (T.int .i64)).map .t),.arr 2 false 0 ((q.map Wh.e).map .t),.box [.ref 6 0 tags.length,.ref 7 0 q.length]]
theorem RY{m:aB}(h:m.ok)(ws out:List World)(x0 x1:T)(tags:List Int)(whr q:List Wh)(hq:q.length=whr.length)(hl:whr.length≤1000000)(t e i:Int)(j:Nat)(hj:j<whr.length)(hz:(nth whr j).frm.length≤1000000):
 ((dr m (nth whr j) t).2≠6→gE true [0,1,6,9,11,12,13,14] 9 (exS aD K.gB ⟨rvV ws whr whr.length t e i j,rvH m ws out x0 x1 tags q⟩)=
   some ⟨rvV ws whr whr.length t (if e=0 then(dr m (nth whr j) t).2 else e) i (j+1),rvH m ws out x0 x1 tags (q.set j (dr m (nth whr j) t).1)⟩)∧
 ((dr m (nth whr j) t).2=6→∃vs H,exS aD K.gB ⟨rvV ws whr whr.length t e i j,rvH m ws out x0 x1 tags q⟩=some (.ret,⟨vs,H⟩)∧vs[5]?=some (.bp 2 0)∧vs[6]?=some (I 6)∧H[2]?=some (.box [.t (.sl (ws.map World.e))])):=by
 have g:=Qu h (nth whr j) t hz
 have ex:(whr.map Wh.e)[j]?=some (nth whr j).e:=b8 _ hj
 generalize dr m (nth whr j) t=r at*
 obtain⟨⟨t1,f1⟩,code⟩:=r
 generalize nth whr j=x at*
 obtain⟨tx,fx⟩:=x
 obtain⟨aa,roads⟩:=m
 simp only[ae,rvV,rvH]at*
 constructor
 · intro c6
   by_cases e0:e=0
   · subst e0
     simp(disch:=omega)only[go_sem,K.gB,↓reduceIte,g,ex,c6,List.length_set,reduceAdd,reduceSub]
   · simp(disch:=omega)only[go_sem,K.gB,↓reduceIte,g,ex,c6,e0,List.length_set,reduceAdd,reduceSub]
 · intro c6
   subst c6
   simp(disch:=omega)only[go_sem,K.gB,↓reduceIte,g,ex,reduceAdd,reduceSub]
   exact⟨_,_,rfl,rfl,rfl,rfl⟩
def rn6(m:aB)(t:Int)(l:List Wh)(j:Nat):Bool:=decide ((dr m (nth l j) t).2=6)
theorem akn{m:aB}(h:m.ok)(ws out:List World)(x0 x1:T)(tags:List Int)(whr:List Wh)(hl:whr.length≤1000000)(hz:∀w∈whr,w.frm.length≤1000000)(t e i:Int)(z9 z11 z12 z13 z14 z6 z0 z1:D):
 ((List.range whr.length).find? (rn6 m t whr)=none∧exS aD K.qW ⟨[z0,z1,I t,.bp 0 0,.bp 1 0,.bp 2 0,z6,.bp 3 0,I e,z9,.bp 8 0,z11,z12,z13,z14,.t (.sl (ws.map World.e)),I ws.length,I i,.t (.sl (whr.map Wh.e)),I whr.length,I 0],rvH m ws out x0 x1 tags whr⟩=
   some (.exit 2,⟨rvV ws whr whr.length t (rnE m t whr e whr.length) i whr.length,rvH m ws out x0 x1 tags (whr.map fun w=>(dr m w t).1)⟩))∨
 ∃j q,(List.range whr.length).find? (rn6 m t whr)=some j∧exS aD K.qW ⟨[z0,z1,I t,.bp 0 0,.bp 1 0,.bp 2 0,z6,.bp 3 0,I e,z9,.bp 8 0,z11,z12,z13,z14,.t (.sl (ws.map World.e)),I ws.length,I i,.t (.sl (whr.map Wh.e)),I whr.length,I 0],rvH m ws out x0 x1 tags whr⟩=some q∧
  q.1= .ret∧q.2.vs[5]?=some (.bp 2 0)∧q.2.vs[6]?=some (I 6)∧q.2.H[2]?=some (.box [.t (.sl (ws.map World.e))]):=by
 have ln:=F6 m t whr
 have lp:=nZ (gc:=true) (dead:=[0,1,6,9,11,12,13,14]) (c:=K.gB)
  (vs:=[z0,z1,I t,.bp 0 0,.bp 1 0,.bp 2 0,z6,.bp 3 0,I e,z9,.bp 8 0,z11,z12,z13,z14,.t (.sl (ws.map World.e)),I ws.length,I i,.t (.sl (whr.map Wh.e)),I whr.length,I 0]) (H:=rvH m ws out x0 x1 tags whr)
  (fun j=>⟨rvV ws whr whr.length t (rnE m t whr e j) i j,rvH m ws out x0 x1 tags (rnN m t whr j)⟩) whr.length (rn6 m t whr)
  (fun _ q=>q.1= .ret∧q.2.vs[5]?=some (.bp 2 0)∧q.2.vs[6]?=some (I 6)∧q.2.H[2]?=some (.box [.t (.sl (ws.map World.e))]))
  (.exit 2,⟨rvV ws whr whr.length t (rnE m t whr e whr.length) i whr.length,rvH m ws out x0 x1 tags (rnN m t whr whr.length)⟩) rfl
  (fun j hj hq=>(RY h ws out x0 x1 tags whr _ (ln j) hl t _ i j hj (hz _ (ai hj))).1 (by simpa [rn6]using hq))
  (fun j hj hq=>by
   obtain⟨vs,H,a,b⟩:=(RY h ws out x0 x1 tags whr _ (ln j) hl t (rnE m t whr e j) i j hj (hz _ (ai hj))).2 (by simpa [rn6]using hq)
   exact⟨_,a,by simp,rfl,b⟩)
  (by
   have:=ln whr.length
   generalize rnN m t whr whr.length=L at*
   generalize rnE m t whr e whr.length=E at*
   simp(disch:=omega)only[go_sem,K.gB,↓reduceIte,rvV,rvH,reduceAdd,reduceSub]) (by simp)
 rw[RX]at lp
 exact lp
def rx6(m:aB)(t:Int)(ws:List World)(i:Nat):Bool:=((List.range (nth ws i).whr.length).find? (rn6 m t (nth ws i).whr)).isSome
abbrev rwV(ws:List World)(t e:Int)(i:Int):List D:=[.und,.und,I t,.bp 0 0,.bp 1 0,.bp 2 0,.und,.bp 3 0,I e,.und,.und,.und,.und,.und,.und,.t (.sl (ws.map World.e)),I ws.length,I i,.und,.und,.und]
abbrev rwH(m:aB)(ws out:List World):aq:=[.box (ae m),.box [.t (.sl (ws.map World.e))],.box [.nil],.box [.ref 4 0 out.length],.arr 2 false 0 ((out.map World.e).map .t)]
theorem RZ{m:aB}(h:m.ok)(ws out:List World)(hw:ws.length≤1000000)(ho:out.length≤1000000)(t e:Int)(i:Nat)(hi:i<ws.length)(hz:(nth ws i).sz):
 (rx6 m t ws i=false→gE true [0,1,6,9,10,11,12,13,14,18,19,20] 5 (exS aD K.iw ⟨rwV ws t e i,rwH m ws out⟩)=
  some ⟨rwV ws t (rnE m t (nth ws i).whr e (nth ws i).whr.length) (i+1),rwH m ws (out++[rnW m t (nth ws i)])⟩)∧
 (rx6 m t ws i=true→∃q,exS aD K.iw ⟨rwV ws t e i,rwH m ws out⟩=some q∧q.1= .ret∧q.2.vs[5]?=some (.bp 2 0)∧q.2.vs[6]?=some (I 6)∧q.2.H[2]?=some (.box [.t (.sl (ws.map World.e))])):=by
 have ex:(ws.map World.e)[i]?=some (nth ws i).e:=b8 _ hi
 have cw:=Up (nth ws i) hz
 obtain⟨z1,z2,z3⟩:=hz
 have inn:=akn h ws out (tL (nth ws i).tags) (.sl ((nth ws i).whr.map Wh.e)) (nth ws i).tags (nth ws i).whr z2 z3 t e i (.bp 5 0) .und .und .und .und .und .und .und
 unfold rx6
 constructor
 · intro hf
   rcases inn with⟨e1,e2⟩ | ⟨j,q,e1, -⟩
   · clear hf e1
     unfold rnW
     have ln:(((nth ws i).whr.map fun w=>(dr m w t).1)).length=(nth ws i).whr.length:=by simp
     generalize (nth ws i).whr.map (fun w=>(dr m w t).1)=r at*
     generalize rnE m t (nth ws i).whr e (nth ws i).whr.length=e' at*
     generalize nth ws i=x at*
     obtain⟨tags,whr⟩:=x
     obtain⟨aa,roads⟩:=m
     simp only[ae,rwV,rwH,rvV,rvH]at*
     simp(disch:=omega)only[go_sem,K.iw,↓reduceIte,ex,cw,e2,ln,reduceAdd,reduceSub]
   · rw[e1]at hf;simp at hf
 · intro hf
   rcases inn with⟨e1,e2⟩ | ⟨j,⟨x,vs,H⟩,e1,e2,e3,e4,e5,e6⟩
   · rw[e1]at hf;simp at hf
   · clear hf e1
     simp only at e3 e4 e5 e6
     subst e3
     generalize nth ws i=x at*
     obtain⟨tags,whr⟩:=x
     obtain⟨aa,roads⟩:=m
     simp only[ae,rwV,rwH,rvV,rvH]at*
     simp(disch:=omega)only[go_sem,K.iw,↓reduceIte,ex,cw,e2,reduceAdd,reduceSub]
     exact⟨_,rfl,rfl,e4,e5,e6⟩
def b7(m:aB)(b:Bel)(t:Int):Bel×Int:=
 if b.av.length<1∨24<b.av.length then(b,6)else match (List.range b.av.length).find? (rx6 m t b.av)with
  | some _=>(b,6)
  | none=>if rnX m t b.av 0 b.av.length≠0 then(b,rnX m t b.av 0 b.av.length)else(⟨b.av.map (rnW m t)⟩,0)
def S4(m:aB)(t:Int)(ws:List World):Nat→List World
 | 0=>[]
 | j+1=>S4 m t ws j++[rnW m t (nth ws j)]
theorem Kw(m:aB)(t:Int)(ws:List World):∀j,j≤ws.length→S4 m t ws j=(ws.take j).map (rnW m t)
 | 0,_=>rfl
 | j+1,h=>by rw[S4,Kw m t ws j (by omega),oV (by omega),List.map_append];rfl
theorem R0{m:aB}(h:m.ok)(b:Bel)(hs:b.sz)(t:Int):
 aD 0 N.fS [.t m.e,.t b.e,I t] []=some (.tup [.t (b7 m b t).1.e,I (b7 m b t).2],[]):=by
 refine ao K.tA rfl ?_
 have va:=iQ h
 have li:=Bq (b.av.length:Int) 1 24
 obtain⟨ws⟩:=b
 obtain⟨s1,s2⟩:=hs
 unfold b7
 simp only at s1 s2 li ⊢
 by_cases c:ws.length<1∨24<ws.length
 · rw[decide_eq_false (by omega)]at li
   rw[if_pos c]
   obtain⟨aa,roads⟩:=m
   simp only[ae]at*
   simp(disch:=omega)only[go_sem,K.fS,↓reduceIte,va,li,reduceAdd,reduceSub]
 · rw[decide_eq_true (by omega)]at li
   rw[if_neg c]
   have ln:∀j,j≤ws.length→(S4 m t ws j).length=j:=fun j hj=>by rw[Kw m t ws j hj];simp;omega
   have lp:=fun z0 z1 z6 z9 z10 z11 z12 z13 z14 z18 z19 z20=>nZ (gc:=true) (dead:=[0,1,6,9,10,11,12,13,14,18,19,20]) (c:=K.iw)
    (vs:=[z0,z1,I t,.bp 0 0,.bp 1 0,.bp 2 0,z6,.bp 3 0,I 0,z9,z10,z11,z12,z13,z14,.t (.sl (ws.map World.e)),I ws.length,I 0,z18,z19,z20]) (H:=rwH m ws [])
    (fun i=>⟨rwV ws t (rnX m t ws 0 i) i,rwH m ws (S4 m t ws i)⟩) ws.length (rx6 m t ws)
    (fun _ q=>q.1= .ret∧q.2.vs[5]?=some (.bp 2 0)∧q.2.vs[6]?=some (I 6)∧q.2.H[2]?=some (.box [.t (.sl (ws.map World.e))]))
    (.exit 0,⟨rwV ws t (rnX m t ws 0 ws.length) ws.length,rwH m ws (S4 m t ws ws.length)⟩) rfl
    (fun j hj hq=>(RZ h ws _ s1 (by rw[ln j (by omega)];omega) t (rnX m t ws 0 j) j hj (s2 _ (ai hj))).1 hq)
    (fun j hj hq=>by
     obtain⟨q,a,b,c⟩:=(RZ h ws (S4 m t ws j) s1 (by rw[ln j (by omega)];omega) t (rnX m t ws 0 j) j hj (s2 _ (ai hj))).2 hq
     exact⟨q,a,by rw[b];simp,b,c⟩)
    (by
     have:=ln ws.length (aLs _)
     generalize S4 m t ws ws.length=L at*
     generalize rnX m t ws 0 ws.length=E at*
     simp(disch:=omega)only[go_sem,K.iw,↓reduceIte,rwV,rwH,reduceAdd,reduceSub]) (by simp)
   have lp':∀z0 z1 z6 z9 z10 z11 z12 z13 z14 z18 z19 z20,_∨_:=lp
   clear lp
   rcases lp' .und .und .und .und .und .und .und .und .und .und .und .und with⟨e1, -⟩ | ⟨j, -,e1, -⟩
   · rw[e1]
     have e2:∀z0 z1 z6 z9 z10 z11 z12 z13 z14 z18 z19 z20:D,exS aD K.qX ⟨[z0,z1,I t,.bp 0 0,.bp 1 0,.bp 2 0,z6,.bp 3 0,I 0,z9,z10,z11,z12,z13,z14,.t (.sl (ws.map World.e)),I ws.length,I 0,z18,z19,z20],rwH m ws []⟩=some (.exit 0,⟨rwV ws t (rnX m t ws 0 ws.length) ws.length,rwH m ws (S4 m t ws ws.length)⟩):=fun z0 z1 z6 z9 z10 z11 z12 z13 z14 z18 z19 z20=>by
      rcases lp' z0 z1 z6 z9 z10 z11 z12 z13 z14 z18 z19 z20 with⟨-,e⟩ | ⟨j,q,e3, -⟩
      · exact e
      · rw[e1]at e3;cases e3
     have l2:=ln ws.length (aLs _)
     have rw_:=Kw m t ws ws.length (aLs _)
     rw[List.take_length]at rw_
     rw[← rw_]
     clear lp' e1 rw_
     generalize S4 m t ws ws.length=L at*
     generalize rnX m t ws 0 ws.length=E at*
     obtain⟨aa,roads⟩:=m
     simp only[ae,rwV,rwH,List.map_nil,List.length_nil]at*
     by_cases c0:E=0
     · subst c0
       simp(disch:=omega)only[go_sem,K.fS,↓reduceIte,va,li,e2,reduceAdd,reduceSub]
     · simp(disch:=omega)only[go_sem,K.fS,↓reduceIte,va,li,e2,c0,ne_eq,not_false_eq_true,reduceAdd,reduceSub]
   · rw[e1]
     obtain⟨q,e2,e3,e4,e5,e6⟩:∃q,exS aD K.qX ⟨[.t m.e,.t (Bel.e ⟨ws⟩),I t,.bp 0 0,.bp 1 0,.bp 2 0,I 0,.bp 3 0,I 0,.und,.und,.und,.und,.und,.und,.t (.sl (ws.map World.e)),I ws.length,I 0,.und,.und,.und],rwH m ws []⟩=some q∧q.1= .ret∧q.2.vs[5]?=some (.bp 2 0)∧q.2.vs[6]?=some (I 6)∧q.2.H[2]?=some (.box [.t (.sl (ws.map World.e))]):=by
      rcases lp' (.t m.e) (.t (Bel.e ⟨ws⟩)) (I 0) .und .und .und .und .und .und .und .und .und with⟨e, -⟩ | ⟨j2,q, -,e3,e4⟩
      · rw[e1]at e;cases e
      · exact⟨q,e3,e4⟩
     clear lp' e1
     obtain⟨x,vs,H⟩:=q
     simp only at e3 e4 e5 e6
     subst e3
     obtain⟨aa,roads⟩:=m
     simp only[ae,rwV,rwH,List.map_nil,List.length_nil]at*
     simp(disch:=omega)only[go_sem,K.fS,↓reduceIte,va,li,e2,e4,e5,e6,reduceAdd,reduceSub]
theorem B3(m:aB)(t:Int)(w:Wh):(lu w m.aa.length=false↔(dr m w t).2=6)∧((dr m w t).2=0∨(dr m w t).2=6∨(dr m w t).2=8):=by
 unfold dr
 cases h:lu w m.aa.length with
 | false=>simp
 | true=>
   simp only[Bool.true_eq_false,if_false,false_iff]
   split<;>simp
abbrev rrH(m:aB)(ws:List World):aq:=[.box (ae m),.box [.t (.sl (ws.map World.e))],.box [.nil]]
abbrev rrV(t:Int)(i j:D):List D:=[.und,.und,I t,.bp 0 0,.bp 1 0,.bp 2 0,.und,i,j,.und,.und,.und,.und,.und]
theorem afZ(m:aB)(ws:List World)(i:Nat)(hi:i<ws.length)(hz:(nth ws i).sz)(t:Int)(z0 z1 z6 z9 z10 z11 z12 z13:D):
 ((List.range (nth ws i).whr.length).find? (rn6 m t (nth ws i).whr)=none∧exS aD K.qY ⟨[z0,z1,I t,.bp 0 0,.bp 1 0,.bp 2 0,z6,I i,I 0,z9,z10,z11,z12,z13],rrH m ws⟩=
   some (.exit 2,⟨rrV t (I i) (I (nth ws i).whr.length),rrH m ws⟩))∨
 ∃j q,(List.range (nth ws i).whr.length).find? (rn6 m t (nth ws i).whr)=some j∧exS aD K.qY ⟨[z0,z1,I t,.bp 0 0,.bp 1 0,.bp 2 0,z6,I i,I 0,z9,z10,z11,z12,z13],rrH m ws⟩=some q∧
  q.1= .ret∧q.2.vs[5]?=some (.bp 2 0)∧q.2.vs[6]?=some (I 6)∧q.2.H[2]?=some (.box [.t (.sl (ws.map World.e))]):=by
 have ex:(ws.map World.e)[i]?=some (nth ws i).e:=b8 _ hi
 obtain⟨y1,y2,y3⟩:=hz
 refine nZ (gc:=false) (dead:=[0,1,6,9,10,11,12,13]) (c:=K.ku) (vs:=[z0,z1,I t,.bp 0 0,.bp 1 0,.bp 2 0,z6,I i,I 0,z9,z10,z11,z12,z13]) (H:=rrH m ws)
  (fun j=>⟨rrV t (I i) (I j),rrH m ws⟩) (nth ws i).whr.length (rn6 m t (nth ws i).whr) (fun _ q=>q.1= .ret∧q.2.vs[5]?=some (.bp 2 0)∧q.2.vs[6]?=some (I 6)∧q.2.H[2]?=some (.box [.t (.sl (ws.map World.e))])) (.exit 2,⟨rrV t (I i) (I (nth ws i).whr.length),rrH m ws⟩) rfl ?_ ?_ ?_ (by simp)
 · intro j hj hq
   have pl:=BS (nth (nth ws i).whr j) m.aa.length (by have:=y3 _ (ai hj);omega)
   have ew:((nth ws i).whr.map Wh.e)[j]?=some (nth (nth ws i).whr j).e:=b8 _ hj
   have c:lu (nth (nth ws i).whr j) m.aa.length=true:=by
    cases h:lu (nth (nth ws i).whr j) m.aa.length with
    | true=>rfl
    | false=>rw[(B3 m t _).1]at h;simp[rn6,h]at hq
   rw[c]at pl
   clear hq c y3
   generalize nth (nth ws i).whr j=w at*
   generalize nth ws i=x at*
   obtain⟨tags,whr⟩:=x
   obtain⟨tw,fw⟩:=w
   obtain⟨aa,roads⟩:=m
   simp only[rrV,rrH,ae]at*
   simp(disch:=omega)only[go_sem,K.ku,↓reduceIte,ex,ew,pl,reduceAdd,reduceSub]
 · intro j hj hq
   have pl:=BS (nth (nth ws i).whr j) m.aa.length (by have:=y3 _ (ai hj);omega)
   have ew:((nth ws i).whr.map Wh.e)[j]?=some (nth (nth ws i).whr j).e:=b8 _ hj
   have c:lu (nth (nth ws i).whr j) m.aa.length=false:=(B3 m t _).1.2 (by simpa [rn6]using hq)
   rw[c]at pl
   clear hq c y3
   generalize nth (nth ws i).whr j=w at*
   generalize nth ws i=x at*
   obtain⟨tags,whr⟩:=x
   obtain⟨tw,fw⟩:=w
   obtain⟨aa,roads⟩:=m
   simp only[rrV,rrH,ae]at*
   simp(disch:=omega)only[go_sem,K.ku,↓reduceIte,ex,ew,pl,aLt,reduceAdd,reduceSub]
   exact⟨_,rfl,by simp,rfl,rfl,rfl,rfl⟩
 · generalize nth ws i=x at*
   obtain⟨tags,whr⟩:=x
   simp only[rrV,rrH,ae]at*
   simp(disch:=omega)only[go_sem,K.ku,↓reduceIte,ex,reduceAdd,reduceSub]
theorem af1(m:aB)(ws:List World)(s1:ws.length≤1000000)(s2:∀x∈ws,x.sz)(t:Int)(z0 z1 z6 z8 z9 z10 z11 z12 z13:D):
 ((List.range ws.length).find? (rx6 m t ws)=none∧exS aD K.qZ ⟨[z0,z1,I t,.bp 0 0,.bp 1 0,.bp 2 0,z6,I 0,z8,z9,z10,z11,z12,z13],rrH m ws⟩=
   some (.exit 0,⟨rrV t (I ws.length) .und,rrH m ws⟩))∨
 ∃j q,(List.range ws.length).find? (rx6 m t ws)=some j∧exS aD K.qZ ⟨[z0,z1,I t,.bp 0 0,.bp 1 0,.bp 2 0,z6,I 0,z8,z9,z10,z11,z12,z13],rrH m ws⟩=some q∧
  q.1= .ret∧q.2.vs[5]?=some (.bp 2 0)∧q.2.vs[6]?=some (I 6)∧q.2.H[2]?=some (.box [.t (.sl (ws.map World.e))]):=by
 refine nZ (gc:=false) (dead:=[0,1,6,8,9,10,11,12,13]) (c:=K.kv) (vs:=[z0,z1,I t,.bp 0 0,.bp 1 0,.bp 2 0,z6,I 0,z8,z9,z10,z11,z12,z13]) (H:=rrH m ws)
  (fun j=>⟨rrV t (I j) .und,rrH m ws⟩) ws.length (rx6 m t ws) (fun _ q=>q.1= .ret∧q.2.vs[5]?=some (.bp 2 0)∧q.2.vs[6]?=some (I 6)∧q.2.H[2]?=some (.box [.t (.sl (ws.map World.e))])) (.exit 0,⟨rrV t (I ws.length) .und,rrH m ws⟩) rfl ?_ ?_ ?_ (by simp)
 · intro j hj hq
   have inn:=fun z0 z1 z6 z9 z10 z11 z12 z13=>afZ m ws j hj (s2 _ (ai hj)) t z0 z1 z6 z9 z10 z11 z12 z13
   rcases inn .und .und .und .und .und .und .und .und with⟨e1,e2⟩ | ⟨k,q,e1, -⟩
   · simp only[rrV,rrH]at*
     simp(disch:=omega)only[go_sem,K.kv,↓reduceIte,e2,reduceAdd,reduceSub]
   · simp[rx6,e1]at hq
 · intro j hj hq
   have inn:=fun z0 z1 z6 z9 z10 z11 z12 z13=>afZ m ws j hj (s2 _ (ai hj)) t z0 z1 z6 z9 z10 z11 z12 z13
   rcases inn .und .und .und .und .und .und .und .und with⟨e1, -⟩ | ⟨k,⟨x,vs,H⟩,e1,e2,e3,e4,e5,e6⟩
   · simp[rx6,e1]at hq
   · simp only at e3 e4 e5 e6
     subst e3
     simp only[rrV,rrH]at*
     simp(disch:=omega)only[go_sem,K.kv,↓reduceIte,e2,reduceAdd,reduceSub]
     exact⟨_,rfl,by simp,rfl,e4,e5,e6⟩
 · simp only[rrV,rrH]at*
   simp(disch:=omega)only[go_sem,K.kv,↓reduceIte,reduceAdd,reduceSub]
structure RnH(m:aB)(ws out:List World)(k9:Nat)(H:aq)(es:List D)(fa fb:Nat→Nat):Prop where
 e0:H[0]?=some (.box (ae m))
 e1:H[1]?=some (.box [.t (.sl (ws.map World.e))])
 e2:H[2]?=some (.box [.nil])
 e9:H[k9]?=some (.box [.ref 3 0 ws.length])
 rp:Rp H 3 es fa fb out
abbrev rsV(t:Int)(k9:Nat)(i j:D):List D:=[.und,.und,I t,.bp 0 0,.bp 1 0,.bp 2 0,.und,.und,.und,.bp k9 0,i,j,.und,.und]
def rn0(m:aB)(t:Int)(l:List Wh)(j:Nat):Prop:=∀k,k<j→(dr m (nth l k) t).2=0
theorem aaQ{m:aB}(h:m.ok)(ws out:List World)(hol:out.length=ws.length)(t:Int)(k9:Nat){i:Nat}(hi:i<ws.length)(hz:(nth ws i).sz){j:Nat}(hj:j<(nth ws i).whr.length)(ho:nth out i=⟨(nth ws i).tags,rnN m t (nth ws i).whr j⟩)
 (H:aq) (es:List D) (fa fb:Nat→Nat) (hr:RnH m ws out k9 H es fa fb):
 ((dr m (nth (nth ws i).whr j) t).2=0→∃H',gE false [0,1,6,7,8,12,13] H.length (exS aD K.jy ⟨rsV t k9 (I i) (I j),H⟩)=some ⟨rsV t k9 (I i) (I (j+1)),H'⟩∧RnH m ws (out.set i ⟨(nth ws i).tags,rnN m t (nth ws i).whr (j+1)⟩) k9 H' es fa fb)∧
 ((dr m (nth (nth ws i).whr j) t).2≠0→∃q,exS aD K.jy ⟨rsV t k9 (I i) (I j),H⟩=some q∧q.1= .ret∧q.2.vs[5]?=some (.bp 2 0)∧q.2.vs[6]?=some (I (dr m (nth (nth ws i).whr j) t).2)∧q.2.H[2]?=some (.box [.t (.sl (ws.map World.e))])):=by
 obtain⟨e0,e1,e2,e9,rp⟩:=hr
 obtain⟨y1,y2,y3⟩:=hz
 have ex:(ws.map World.e)[i]?=some (nth ws i).e:=b8 _ hi
 have ew:((nth ws i).whr.map Wh.e)[j]?=some (nth (nth ws i).whr j).e:=b8 _ hj
 have g:=Qv h (nth (nth ws i).whr j) t (y3 _ (ai hj))
 have l0:=nY e0
 have l1:=nY e1
 have l2:=nY e2
 have l9:=nY e9
 have arr:=rp.arr
 have len:=rp.len
 have el:=rp.el i (by omega)
 have hb:=rp.hb i (by omega)
 have lb:=nY hb
 have ll:=F6 m t (nth ws i).whr j
 rw[ho]at el hb
 simp only[ll]at el hb
 have nb:fb i≠0∧fb i≠1∧fb i≠2∧fb i≠k9:=⟨fun e=>(by rw[e,e0]at hb;cases hb),fun e=>(by rw[e,e1]at hb;cases hb),fun e=>(by rw[e,e2]at hb;cases hb),fun e=>(by rw[e,e9]at hb;cases hb)⟩
 constructor
 · intro c0
   have mg:=(rp.merge (k:=i) (by omega) ⟨(nth ws i).tags,rnN m t (nth ws i).whr (j+1)⟩ (by rw[ho]) (by rw[ho];simp only[F6])).more [.box [I (dr m (nth (nth ws i).whr j) t).1.time,.t (tL (dr m (nth (nth ws i).whr j) t).1.frm)]]
   refine⟨_,?_,?_,?_,?_,?_,mg⟩
   · rw[c0]at g
     simp only[rnN]
     clear mg y3 ho
     generalize dr m (nth (nth ws i).whr j) t=r at*
     obtain⟨⟨t1,f1⟩,code⟩:=r
     generalize rnN m t (nth ws i).whr j=L at*
     generalize nth (nth ws i).whr j=w at*
     generalize nth ws i=x at*
     obtain⟨tags,whr⟩:=x
     obtain⟨tw,fw⟩:=w
     obtain⟨aa,roads⟩:=m
     simp only[rsV,ints,whs,ae]at*
     generalize fb i=b at*
     simp(disch:=omega)only[go_sem,K.jy,↓reduceIte,ex,ew,g,e0,e1,e2,e9,arr,len,el,hb,lx,mc,jW,P8,pj,vU,reduceAdd,reduceSub]
   all_goals
    rw[lx (by rw[List.length_set];omega),fH (by omega)]
    assumption
 · intro c0
   clear y3 ho
   generalize dr m (nth (nth ws i).whr j) t=r at*
   obtain⟨⟨t1,f1⟩,code⟩:=r
   generalize nth (nth ws i).whr j=w at*
   generalize nth ws i=x at*
   obtain⟨tags,whr⟩:=x
   obtain⟨tw,fw⟩:=w
   obtain⟨aa,roads⟩:=m
   simp only[rsV,ints,whs,ae]at*
   simp(disch:=omega)only[go_sem,K.jy,↓reduceIte,ex,ew,g,c0,e0,e1,e2,e9,lx,mc,jW,P8,pj,vU,reduceAdd,reduceSub]
   refine⟨_,rfl,rfl,rfl,rfl,?_⟩
   show(List.set H 2 _++_)[2]?=_
   rw[lx (by rw[List.length_set];exact l2),me l2]
theorem ako{m:aB}(h:m.ok)(ws out:List World)(hol:out.length=ws.length)(t:Int)(k9:Nat){i:Nat}(hi:i<ws.length)(hz:(nth ws i).sz)(ho:nth out i=nth ws i)
 (H:aq) (es:List D) (fa fb:Nat→Nat) (hr:RnH m ws out k9 H es fa fb) (z0 z1 z6 z7 z8 z12 z13:D):
 ∃q,exS aD K.xe ⟨[z0,z1,I t,.bp 0 0,.bp 1 0,.bp 2 0,z6,z7,z8,.bp k9 0,I i,I 0,z12,z13],H⟩=some q∧
  ((∃H',q=(.exit 6,⟨rsV t k9 (I i) (I (nth ws i).whr.length),H'⟩)∧RnH m ws (out.set i (rnW m t (nth ws i))) k9 H' es fa fb∧rn0 m t (nth ws i).whr (nth ws i).whr.length)∨
   (q.1= .ret∧q.2.vs[5]?=some (.bp 2 0)∧(∃j,j<(nth ws i).whr.length∧(dr m (nth (nth ws i).whr j) t).2≠0∧q.2.vs[6]?=some (I (dr m (nth (nth ws i).whr j) t).2))∧q.2.H[2]?=some (.box [.t (.sl (ws.map World.e))]))):=by
 have y2:=hz.2.1
 refine WN (fun j st=>∃H,st=⟨rsV t k9 (I i) (I j),H⟩∧RnH m ws (out.set i ⟨(nth ws i).tags,rnN m t (nth ws i).whr j⟩) k9 H es fa fb∧rn0 m t (nth ws i).whr j) (nth ws i).whr.length _ ?_ ?_ ?_
 · refine⟨H,rfl,?_,fun k hk=>absurd hk (by omega)⟩
   have:out.set i ⟨(nth ws i).tags,rnN m t (nth ws i).whr 0⟩=out:=by
    show out.set i (nth ws i)=out
    rw[← ho,NA _ _ (by omega)]
   rw[this];exact hr
 · rintro j st hj ⟨H,rfl,hR,h0⟩
   have st:=aaQ h ws (out.set i ⟨(nth ws i).tags,rnN m t (nth ws i).whr j⟩) (by rw[List.length_set];exact hol) t k9 hi hz hj (by rw[C2 _ _ (by omega),if_pos rfl]) H es fa fb hR
   by_cases c:(dr m (nth (nth ws i).whr j) t).2=0
   · obtain⟨H',a,b⟩:=st.1 c
     rw[List.set_set]at b
     refine .inl ⟨_,a,H',rfl,b,fun k hk=>?_⟩
     by_cases e:k=j
     · rw[e];exact c
     · exact h0 k (by omega)
   · obtain⟨q,a,b,d,e,f⟩:=st.2 c
     exact .inr ⟨q,a,by rw[b];simp,.inr ⟨b,d,⟨j,hj,c,e⟩,f⟩⟩
 · rintro st ⟨H,rfl,hR,h0⟩
   rw[RX]at hR
   refine⟨(.exit 6,⟨rsV t k9 (I i) (I (nth ws i).whr.length),H⟩),?_,by simp,.inl ⟨H,rfl,hR,h0⟩⟩
   have ex:(ws.map World.e)[i]?=some (nth ws i).e:=b8 _ hi
   have e1:=hR.e1
   have l1:=nY e1
   generalize nth ws i=x at*
   obtain⟨tags,whr⟩:=x
   simp only[rsV]at*
   simp(disch:=omega)only[go_sem,K.jy,↓reduceIte,ex,e1,reduceAdd,reduceSub]
def rnO(m:aB)(t:Int)(ws:List World):Nat→List World
 | 0=>ws
 | i+1=>(rnO m t ws i).set i (rnW m t (nth ws i))
theorem R3(m:aB)(t:Int)(ws:List World):∀j,(rnO m t ws j).length=ws.length
 | 0=>rfl
 | j+1=>by simp only[rnO,List.length_set,R3 m t ws j]
theorem R4(m:aB)(t:Int)(l:List World):∀j,j≤l.length→rnO m t l j=(l.take j).map (rnW m t)++l.drop j
 | 0,_=>by simp[rnO]
 | j+1,h=>by
   rw[rnO,R4 m t l j (by omega),oV (by omega:j<l.length),List.map_append]
   have e:l.drop j=nth l j::l.drop (j+1):=by rw[List.drop_eq_getElem_cons (by omega),bC (aLc (by omega:j<l.length))]
   rw[e,List.set_append_right _ _ (by simp;omega)]
   simp
   rw[show j-min j l.length=0 by omega];rfl
theorem aaR(m:aB)(t:Int)(l:List World){j:Nat}(h:j<l.length):nth (rnO m t l j) j=nth l j:=by
 rw[R4 m t l j (by omega)]
 refine bC ?_
 rw[aLh (by simp;omega),List.getElem?_drop]
 simp only[List.length_map,List.length_take]
 rw[show j+(j-min j l.length)=j by omega,cG h]
theorem af2{m:aB}(h:m.ok)(ws:List World)(s1:ws.length≤1000000)(s2:∀x∈ws,x.sz)(t:Int)(k9:Nat)(H:aq)(es:List D)(fa fb:Nat→Nat)(hr:RnH m ws ws k9 H es fa fb)(z0 z1 z6 z7 z8 z11 z12 z13:D):
 ∃q,exS aD K.xf ⟨[z0,z1,I t,.bp 0 0,.bp 1 0,.bp 2 0,z6,z7,z8,.bp k9 0,I 0,z11,z12,z13],H⟩=some q∧
  ((∃H',q=(.exit 4,⟨rsV t k9 (I ws.length) .und,H'⟩)∧RnH m ws (ws.map (rnW m t)) k9 H' es fa fb∧∀i,i<ws.length→rn0 m t (nth ws i).whr (nth ws i).whr.length)∨
   (q.1= .ret∧q.2.vs[5]?=some (.bp 2 0)∧(∃i j,i<ws.length∧j<(nth ws i).whr.length∧(dr m (nth (nth ws i).whr j) t).2≠0∧q.2.vs[6]?=some (I (dr m (nth (nth ws i).whr j) t).2))∧q.2.H[2]?=some (.box [.t (.sl (ws.map World.e))]))):=by
 refine WN (fun i st=>∃H,st=⟨rsV t k9 (I i) .und,H⟩∧RnH m ws (rnO m t ws i) k9 H es fa fb∧∀k,k<i→rn0 m t (nth ws k).whr (nth ws k).whr.length) ws.length _ ?_ ?_ ?_
 · exact⟨H,rfl,hr,fun k hk=>absurd hk (by omega)⟩
 · rintro i st hi ⟨H,rfl,hR,h0⟩
   have e1:=hR.e1
   have l1:=nY e1
   obtain⟨q,hq,hQ⟩:=ako h ws (rnO m t ws i) (R3 m t ws i) t k9 hi (s2 _ (ai hi)) (aaR m t ws hi) H es fa fb hR .und .und .und .und .und .und .und
   rcases hQ with⟨H',rfl,hR',h1⟩ | ⟨b,d,⟨j,hj,c,e⟩,f⟩
   · refine .inl ⟨⟨rsV t k9 (I (i+1)) .und,H'⟩,?_,H',rfl,hR',fun k hk=>?_⟩
     · simp only[rsV]at*
       simp(disch:=omega)only[go_sem,K.mU,↓reduceIte,e1,hq,reduceAdd,reduceSub]
     · by_cases ek:k=i
       · rw[ek];exact h1
       · exact h0 k (by omega)
   · obtain⟨x,vs,H2⟩:=q
     simp only at b d e f
     subst b
     refine .inr ⟨(.ret,⟨vs,H2⟩),?_,by simp,.inr ⟨rfl,d,⟨i,j,hi,hj,c,e⟩,f⟩⟩
     simp only[rsV]at*
     simp(disch:=omega)only[go_sem,K.mU,↓reduceIte,e1,hq,reduceAdd,reduceSub]
 · rintro st ⟨H,rfl,hR,h0⟩
   have e1:=hR.e1
   have l1:=nY e1
   have fin:rnO m t ws ws.length=ws.map (rnW m t):=by rw[R4 m t ws ws.length (aLs _)];simp
   rw[fin]at hR
   refine⟨(.exit 4,⟨rsV t k9 (I ws.length) .und,H⟩),?_,by simp,.inl ⟨H,rfl,hR,h0⟩⟩
   simp only[rsV]
   simp(disch:=omega)only[go_sem,K.mU,↓reduceIte,e1,reduceAdd,reduceSub]
theorem Xa(m:aB)(t:Int)(l:List Wh)(h:∀j,j<l.length→(dr m (nth l j) t).2≠6){e:Int}(he:e=0∨e=8):∀j,j≤l.length→(rnE m t l e j=0∨rnE m t l e j=8)∧(rnE m t l e j=0↔e=0∧rn0 m t l j)
 | 0,_=>⟨he,⟨fun h=>⟨h,fun k hk=>absurd hk (by omega)⟩,fun h=>h.1⟩⟩
 | j+1,hj=>by
   obtain⟨a,b⟩:=Xa m t l h he j (by omega)
   have c:=(B3 m t (nth l j)).2
   have d:=h j (by omega)
   have s:rn0 m t l (j+1)↔rn0 m t l j∧(dr m (nth l j) t).2=0:=by
    constructor
    · exact fun x=>⟨fun k hk=>x k (by omega),x j (by omega)⟩
    · rintro ⟨x,y⟩ k hk
      by_cases e:k=j
      · rw[e];exact y
      · exact x k (by omega)
   simp only[rnE]
   by_cases e0:rnE m t l e j=0
   · rw[if_pos e0]
     refine⟨by omega,?_⟩
     rw[s]
     have:=b.1 e0
     constructor
     · exact fun x=>⟨this.1,this.2,x⟩
     · exact fun x=>x.2.2
   · rw[if_neg e0]
     refine⟨a,?_⟩
     rw[s]
     constructor
     · exact fun x=>absurd x e0
     · exact fun x=>b.2 ⟨x.1,x.2.1⟩
theorem R5(m:aB)(t:Int)(ws:List World)(h:∀i,i<ws.length→∀j,j<(nth ws i).whr.length→(dr m (nth (nth ws i).whr j) t).2≠6):∀i,i≤ws.length→(rnX m t ws 0 i=0∨rnX m t ws 0 i=8)∧(rnX m t ws 0 i=0↔∀k,k<i→rn0 m t (nth ws k).whr (nth ws k).whr.length)
 | 0,_=>⟨.inl rfl,⟨fun _ k hk=>absurd hk (by omega),fun _=>rfl⟩⟩
 | i+1,hi=>by
   obtain⟨a,b⟩:=R5 m t ws h i (by omega)
   obtain⟨c,d⟩:=Xa m t (nth ws i).whr (h i (by omega)) a (nth ws i).whr.length (aLs _)
   simp only[rnX]
   refine⟨c,?_⟩
   rw[d,b]
   constructor
   · rintro ⟨x,y⟩ k hk
     by_cases e:k=i
     · rw[e];exact y
     · exact x k (by omega)
   · exact fun x=>⟨fun k hk=>x k (by omega),x i (by omega)⟩
theorem F7{m:aB}{t:Int}{ws:List World}(h:(List.range ws.length).find? (rx6 m t ws)=none):∀i,i<ws.length→∀j,j<(nth ws i).whr.length→(dr m (nth (nth ws i).whr j) t).2≠6:=by
 intro i hi j hj e
 have a:=List.find?_eq_none.1 h i (aLu.2 hi)
 apply a
 unfold rx6
 rw[List.find?_isSome]
 exact⟨j,aLu.2 hj,decide_eq_true e⟩
theorem N1{H:aq}{cs:List D}{x:T}(e:Go.Ev.frz H depth (.agg cs)=some x)(c:Int):finish 0 0 H [.agg cs,I c]=some (.tup [.t x,I c],[]):=by
 have o1:[D.t x,I c].all (old 0 depth)=true:=by simp[old]
 unfold finish
 simp only[if_true,cD,yo,e,aLw,aLq,o1,List.take_zero,List.all_nil,Bool.and_self,j3,xp]
 rw[if_pos (by simp[gT])]
theorem Rp.Em{H:aq}{id:Nat}{es:List D}{fa fb:Nat→Nat}{out:List World}(hr:Rp H id es fa fb out){k:Nat}{cs:List D}(hk:H[k]?=some (.box cs))(o:Obj):Rp (H.set k o) id es fa fb out:=by
 have ne:∀ {i:Nat} {sz ep:Nat} {p:Bool} {l:List D},H[i]?=some (.arr sz p ep l)→k≠i:=fun h e=>by rw[← e,hk]at h;cases h
 exact⟨by rw[fH (ne hr.arr)];exact hr.arr,hr.len,hr.el,fun j hj=>by rw[fH (ne (hr.ha j hj))];exact hr.ha j hj,fun j hj=>by rw[fH (ne (hr.hb j hj))];exact hr.hb j hj,hr.na,hr.nb,hr.nab,hr.nbb⟩
theorem R6{m:aB}(h:m.ok)(b:Bel)(hs:b.sz)(t:Int):
 aD 0 N.fe [.t m.e,.t b.e,I t] []=some (.tup [.t (b7 m b t).1.e,I (b7 m b t).2],[]):=by
 refine ao K.tB rfl ?_
 have ck:=nO h
 have cb:=vV b hs
 have cb2:=Ki b hs
 obtain⟨ws⟩:=b
 obtain⟨s1,s2⟩:=hs
 unfold b7
 simp only at s1 s2 ⊢
 by_cases c1:ws.length<1
 · rw[if_pos (.inl c1)]
   obtain⟨aa,roads⟩:=m
   simp only[ae]at*
   simp(disch:=omega)only[go_sem,K.fe,↓reduceIte,ck,cb,c1,reduceAdd,reduceSub]
 · by_cases c2:24<ws.length
   · rw[if_pos (.inr c2)]
     obtain⟨aa,roads⟩:=m
     simp only[ae]at*
     simp(disch:=omega)only[go_sem,K.fe,↓reduceIte,ck,cb,c1,c2,reduceAdd,reduceSub]
   · rw[if_neg (by omega)]
     have ro:=fun z0 z1 z6 z8 z9 z10 z11 z12 z13=>af1 m ws s1 s2 t z0 z1 z6 z8 z9 z10 z11 z12 z13
     rcases ro (.t m.e) (.t (Bel.e ⟨ws⟩)) (I 0) .und .und .und .und .und .und with⟨e1,e2⟩ | ⟨j,⟨x,vs,H⟩,e1,e2,e3,e4,e5,e6⟩
     · rw[e1]
       obtain⟨x1,x2⟩:=R5 m t ws (F7 e1) ws.length (aLs _)
       have hR:RnH m ws ws (2*ws.length+1+1+1+1) ([.box (ae m),.box [.t (.sl (ws.map World.e))],.box [.nil]]++cpH 3 ws++[.box [.ref 3 0 ws.length]]) ((List.range ws.length).map (Uw 3 ws)) (fun j=>3+2*j+1) (fun j=>3+2*j+2):=by
        refine⟨rfl,rfl,rfl,?_,akg rfl ws _⟩
        have:=aag (a:=[.box (ae m),.box [.t (.sl (ws.map World.e))],.box [.nil]]) (b:=cpH 3 ws) (t:=[.box [.ref 3 0 ws.length]])
        rw[Dc]at this
        rw[show 2*ws.length+1+1+1+1=3+(2*ws.length+1)by omega]
        exact this
       have gA:∀o:Obj,(cpH 3 ws++[o])[2*ws.length+1]?=some o:=fun o=>by
        rw[aLh (by rw[Dc];omega),Dc,Nat.sub_self];rfl
       have gS:∀o o2:Obj,(cpH 3 ws++[o]).set (2*ws.length+1) o2=cpH 3 ws++[o2]:=fun o o2=>by
        rw[List.set_append_right _ _ (by rw[Dc];omega),Dc,Nat.sub_self];rfl
       have n6:=F7 e1
       obtain⟨q,hq,hQ⟩:=af2 h ws s1 s2 t _ _ _ _ _ hR .und .und .und (I ws.length) .und .und .und .und
       have cl:=Dc 3 ws
       clear ro e1
       rcases hQ with⟨H',rfl,hR',h0⟩ | ⟨b,d,⟨i,j,hi,hj,cc,ee⟩,f⟩
       · have z0:=x2.2 h0
         rw[if_neg (by omega)]
         have g2:=hR'.e2
         have fz:∀o:Obj,finish 0 0 (H'.set 2 o) [.agg [.ref 3 0 ws.length],I 0]=some (.tup [.t (.agg [.sl ((ws.map (rnW m t)).map World.e)]),I 0],[]):=fun o=>by
          refine N1 ?_ 0
          have rp:=hR'.rp.Em g2 o
          have ha:jc (H'.set 2 o) 3 0 ws.length=some (2,false,(List.range ws.length).map (Uw 3 ws)):=by simp only[jc,rp.arr];rw[if_pos ⟨trivial,by simp⟩]
          show(cD (Go.Ev.frz (H'.set 2 o) 7) [.ref 3 0 ws.length]).map T.agg=_
          have e7:Go.Ev.frz (H'.set 2 o) 7 (.ref 3 0 ws.length)=some (.sl ((ws.map (rnW m t)).map World.e)):=by
           show((jc (H'.set 2 o) 3 0 ws.length).bind fun a=>cD (Go.Ev.frz (H'.set 2 o) 6) a.2.2).map T.sl=_
           rw[ha,aLq,rp.in6.1];rfl
          simp only[cD,e7,aLq,aLw]
         have g9:=hR'.e9
         have l2:=nY g2
         have l9:=nY g9
         clear hR hR' h0 x1 x2 s2 z0
         generalize ws.map (rnW m t)=L at*
         obtain⟨aa,roads⟩:=m
         simp only[ae,rrH,rsV,List.cons_append,List.nil_append]at*
         simp(disch:=omega)only[go_sem,K.fe,↓reduceIte,ck,cb,cb2,c1,c2,e2,cl,LZ,LY,gA,gS,hq,g9,g2,me,fz,reduceAdd,reduceSub]
       · have n8:(dr m (nth (nth ws i).whr j) t).2=8:=by
          have:=(B3 m t (nth (nth ws i).whr j)).2
          have:=n6 i hi j hj
          omega
         have e8:rnX m t ws 0 ws.length=8:=by
          have:rnX m t ws 0 ws.length≠0:=fun e=>cc (x2.1 e i hi j hj)
          omega
         rw[e8,if_pos (by omega)]
         rw[n8]at ee
         obtain⟨x,vs,H⟩:=q
         simp only at b d ee f
         subst b
         clear hR x1 x2 s2 n6 e8
         obtain⟨aa,roads⟩:=m
         simp only[ae,rrH,rsV,List.cons_append,List.nil_append]at*
         simp(disch:=omega)only[go_sem,K.fe,↓reduceIte,ck,cb,cb2,c1,c2,e2,cl,LZ,LY,gA,gS,hq,d,ee,f,reduceAdd,reduceSub]
     · rw[e1]
       simp only at e3 e4 e5 e6
       subst e3
       clear ro e1
       obtain⟨aa,roads⟩:=m
       simp only[ae,rrH]at*
       simp(disch:=omega)only[go_sem,K.fe,↓reduceIte,ck,cb,c1,c2,e2,e4,e5,e6,reduceAdd,reduceSub]
end Go.Ev
namespace Go.Ev
open Go
variable [Lib] [cu] [bM] [gu] [gk] [i7] [fK] [fI] [iv] [gj] [dq] [cT] [fT] [ff] [jA] [iY] [gC] [eC] [jL]
theorem aaS(n:Int)(h0:0≤n)(h1:n≤4294967296):aD 1 N.cF [.nil,I n] []=some (.ref 0 0 0,[.arr 1 false 0 []]):=by
 refine CG K.kB (by simp[K.cF]) ?_
 show(if 0≤n∧n≤4294967296 then _ else _)=_
 rw[if_pos ⟨h0,h1⟩]
 rfl
def ah2(a b:List Int):Nat→Nat
 | 0=>0
 | 1=>a.length
 | _=>a.length+b.length
def af3(a b:List Int):Nat→List Int
 | 0=>[]
 | 1=>a
 | _=>a++b
theorem R7(a b:List Int)(ha:a.length≤100000)(hb:b.length≤100000):aD 1 N.bH [.t (.sl [tL a,tL b])] []=some (.ref 0 0 (a++b).length,[kF (a++b)]):=by
 refine ao K.jK rfl ?_
 have gr:=aaS (a.length+b.length) (by omega) (by omega)
 have l1:∀z1 z3 z4 z5 z9 z10 z11:D,exS aD K.mi ⟨[.t (.sl [tL a,tL b]),z1,I 0,z3,z4,z5,.t (.sl [tL a,tL b]),I 2,I 0,z9,z10,z11],[]⟩=
  some (.exit 0,⟨[.t (.sl [tL a,tL b]),.und,I (a.length+b.length),.und,.und,.und,.t (.sl [tL a,tL b]),I 2,I 2,.und,.und,.und],[]⟩):=by
  intro z1 z3 z4 z5 z9 z10 z11
  refine bk (fun j=>⟨[.t (.sl [tL a,tL b]),.und,I (ah2 a b j),.und,.und,.und,.t (.sl [tL a,tL b]),I 2,I j,.und,.und,.und],[]⟩) 2 rfl ?_ ?_ (by simp)
  · intro j hj
    have:j=0∨j=1:=by omega
    rcases this with rfl | rfl
    · simp only[ah2]
      simp(disch:=omega)only[go_sem,K.gp,↓reduceIte,Int.natCast_zero,Int.zero_add,reduceAdd,reduceSub]
    · simp only[ah2]
      simp(disch:=omega)only[go_sem,K.gp,↓reduceIte,reduceAdd,reduceSub]
      rfl
  · simp only[ah2]
    simp(disch:=omega)only[go_sem,K.gp,↓reduceIte,reduceAdd,reduceSub]
 have l2:∀z0 z1 z2 z3 z5 z6 z7 z8:D,exS aD K.mj ⟨[z0,z1,z2,z3,.ref 0 0 0,z5,z6,z7,z8,.t (.sl [tL a,tL b]),I 2,I 0],[kF []]⟩=
  some (.exit 2,⟨[.und,.und,.und,.und,.ref 0 0 (a++b).length,.und,.und,.und,.und,.t (.sl [tL a,tL b]),I 2,I 2],[kF (a++b)]⟩):=by
  intro z0 z1 z2 z3 z5 z6 z7 z8
  refine bk (fun j=>⟨[.und,.und,.und,.und,.ref 0 0 (af3 a b j).length,.und,.und,.und,.und,.t (.sl [tL a,tL b]),I 2,I j],[kF (af3 a b j)]⟩) 2 rfl ?_ ?_ (by simp)
  · intro j hj
    have:j=0∨j=1:=by omega
    rcases this with rfl | rfl
    · simp only[af3]
      simp(disch:=omega)only[go_sem,K.gq,↓reduceIte,reduceAdd,reduceSub]
    · simp only[af3]
      simp(disch:=omega)only[go_sem,K.gq,↓reduceIte,reduceAdd,reduceSub]
      simp only[kF,List.map_append]
      rfl
  · simp only[af3]
    simp(disch:=omega)only[go_sem,K.gq,↓reduceIte,reduceAdd,reduceSub]
 generalize hc:a++b=c at l2 ⊢
 simp(disch:=omega)only[go_sem,K.bH,↓reduceIte,l1,gr,reduceAdd,reduceSub]
 refine iz (l2 _ _ _ _ _ _ _ _) ?_
 simp(disch:=omega)only[go_sem,K.bH,↓reduceIte,reduceAdd,reduceSub]
theorem R8(l:List Int):(∀i,i<l.length→gW l i=true)∨∃k,1≤k∧k<l.length∧gW l k=false∧∀i,i<k→gW l i=true:=by
 by_cases h:∀i,i<l.length→gW l i=true
 · exact .inl h
 · right
   have:∃k,k<l.length∧gW l k=false:=by
    apply Classical.byContradiction
    intro hn
    exact h fun i hi=>by
     cases hc:gW l i with
     | true=>rfl
     | false=>exact absurd ⟨i,hi,hc⟩ hn
   obtain⟨k,hk,hf⟩:=this
   induction k using Nat.strongRecOn with
   | ind k ih=>
     by_cases hx:∀i,i<k→gW l i=true
     · refine⟨k,?_,hk,hf,hx⟩
       by_cases c:k=0
       · subst c;simp[gW]at hf
       · omega
     · have:∃i,i<k∧gW l i=false:=by
        apply Classical.byContradiction
        intro hn
        exact hx fun i hi=>by
         cases hc:gW l i with
         | true=>rfl
         | false=>exact absurd ⟨i,hi,hc⟩ hn
       obtain⟨i,h1,h2⟩:=this
       exact ih i h1 (by omega) h2
theorem af4(l:List Int)(hl:l.length≤200000)(k:Nat)(h1:1≤k)(hk:k<l.length)(hf:gW l k=false)(hx:∀i,i<k→gW l i=true)(z1:D):
 exS aD K.lH ⟨[.ref 0 0 l.length,z1,I k,.sub 0 0 l.length k l.length,I 1],[kF l]⟩=
  some (.exit 2,⟨[.ref 0 0 l.length,.und,I (Bu l).length,.sub 0 0 l.length k l.length,I (l.length-k)],[kF (kA (gW l) l l.length)]⟩):=by
 obtain⟨e1,e2⟩:=FY (gW l) l hk hx hf
 refine bk (fun i=>⟨[.ref 0 0 l.length,.und,I (kN (gW l) l (k+1+i)).length,.sub 0 0 l.length k l.length,I (1+i:Nat)],[kF (kA (gW l) l (k+1+i))]⟩) (l.length-(k+1)) ?_ ?_ ?_ (by simp)
 · simp only[Nat.add_zero,e1,e2]
   rfl
 · intro i hi
   have hj:k+1+i<l.length:=by omega
   have kl:(kN (gW l) l (k+1+i)).length≤k+i:=by
    have key:∀i,(kN (gW l) l (k+1+i)).length≤k+i:=by
     intro i
     induction i with
     | zero=>rw[Nat.add_zero,e2];omega
     | succ i ih=>
       rw[show k+1+(i+1)=(k+1+i)+1 from rfl,vG]
       split<;>simp<;>omega
    exact key i
   have n1:=Mh (gW l) l (k+1+i) (i:=k+1+i) (by omega)
   have n2:=Mh (gW l) l (k+1+i) (i:=k+i) (by omega)
   have ln:=zy (gW l) l (j:=k+1+i) (by omega)
   have st:=RK (gW l) l hj
   have sm:=FX (gW l) l (j:=k+1+i)
   have sp:=vG (gW l) l (k+1+i)
   have fb:gW l (k+1+i)=decide (nth l (k+1+i)≠nth l (k+i)):=by
    unfold gW
    rw[decide_eq_false (by omega),Bool.false_or,show k+1+i-1=k+i by omega]
   rw[show k+1+(i+1)=k+1+i+1 from rfl]
   generalize kA (gW l) l (k+1+i)=A at*
   generalize kN (gW l) l (k+1+i)=F at*
   have x1:nth A (k+(1+i))=nth l (k+1+i):=by rw[← n1];congr 1;omega
   have x2:nth A (k+i)=nth l (k+i):=n2
   have t1:(1+(i:Int)).toNat=1+i:=by omega
   have t2:(1+(i:Int)-1).toNat=i:=by omega
   by_cases c:nth l (k+1+i)=nth l (k+i)
   · rw[(sm (by rw[fb];simp[c])).1,(sm (by rw[fb];simp[c])).2]
     simp(disch:=omega)only[go_sem,K.fF,↓reduceIte,t1,t2,x1,x2,c,not_true_eq_false,Int.add_assoc,reduceAdd,reduceSub]
   · rw[← st (by rw[fb];simp[c]),sp,if_pos (by rw[fb];simp[c])]
     simp(disch:=omega)only[go_sem,K.fF,↓reduceIte,t1,t2,x1,x2,c,JK,aLv,List.length_singleton,not_false_eq_true,Int.add_assoc,reduceAdd,reduceSub]
 · have:k+1+(l.length-(k+1))=l.length:=by omega
   rw[this]
   have ln:=zy (gW l) l (j:=l.length) (aLs _)
   unfold Bu
   generalize kA (gW l) l l.length=A at*
   generalize kN (gW l) l l.length=F at*
   have t3:(1:Int)+((l.length-(k+1):Nat):Int)=(l.length:Int)-k:=by omega
   simp(disch:=omega)only[go_sem,K.fF,↓reduceIte,t3,reduceAdd,reduceSub]
theorem R9(l:List Int)(hl:l.length≤200000)(h2:2≤l.length)(h:∀i,i<l.length→gW l i=true)(z1 z3 z4:D):
 exS aD K.i5 ⟨[.ref 0 0 l.length,z1,I 1,z3,z4],[kF l]⟩=some (.exit 0,⟨[.ref 0 0 l.length,.und,I l.length,.und,.und],[kF l]⟩):=by
 refine bk (fun i=>⟨[.ref 0 0 l.length,.und,I (1+i:Nat),.und,.und],[kF l]⟩) (l.length-1) rfl ?_ ?_ (by simp)
 · intro i hi
   have fb:=h (1+i) (by omega)
   have c:¬nth l (1+i)=nth l i:=by
    unfold gW at fb
    rw[decide_eq_false (by omega),Bool.false_or,show 1+i-1=i by omega]at fb
    simpa using fb
   have t1:(1+(i:Int)).toNat=1+i:=by omega
   have t2:(1+(i:Int)-1).toNat=i:=by omega
   simp(disch:=omega)only[go_sem,K.cU,↓reduceIte,t1,t2,c,Int.add_assoc,reduceAdd,reduceSub]
 · have t3:(1:Int)+((l.length-1:Nat):Int)=(l.length:Int):=by omega
   simp(disch:=omega)only[go_sem,K.cU,↓reduceIte,t3,reduceAdd,reduceSub]
theorem N2(l:List Int)(hl:l.length≤200000)(k:Nat)(h1:1≤k)(hk:k<l.length)(hf:gW l k=false)(hx:∀i,i<k→gW l i=true)(z1 z3 z4:D):
 exS aD K.i5 ⟨[.ref 0 0 l.length,z1,I 1,z3,z4],[kF l]⟩=some (.ret,⟨[.ref 0 0 l.length,.ref 0 1 (Bu l).length,I (Bu l).length,.sub 0 0 l.length k l.length,I (l.length-k)],[.arr 1 false 1 (((Bu l).map (T.int .i64)).map .t)]⟩):=by
 have key:=zf (vs:=[.ref 0 0 l.length,z1,I 1,z3,z4]) (H:=[kF l]) (c:=K.cU) (gc:=true) (dead:=[1,3,4])
  (fun i st=>st=⟨[.ref 0 0 l.length,.und,I (1+i:Nat),.und,.und],[kF l]⟩) (k-1) (fun q=>q=(.ret,⟨[.ref 0 0 l.length,.ref 0 1 (Bu l).length,I (Bu l).length,.sub 0 0 l.length k l.length,I (l.length-k)],[.arr 1 false 1 (((Bu l).map (T.int .i64)).map .t)]⟩)) rfl ?_ ?_
 · obtain⟨q,h1,rfl⟩:=key
   exact h1
 · rintro i st hi rfl
   have fb:=hx (1+i) (by omega)
   have c:¬nth l (1+i)=nth l i:=by
    unfold gW at fb
    rw[decide_eq_false (by omega),Bool.false_or,show 1+i-1=i by omega]at fb
    simpa using fb
   have t1:(1+(i:Int)).toNat=1+i:=by omega
   have t2:(1+(i:Int)-1).toNat=i:=by omega
   refine⟨_,?_,rfl⟩
   simp(disch:=omega)only[go_sem,K.cU,↓reduceIte,t1,t2,c,Int.add_assoc,reduceAdd,reduceSub]
 · rintro st rfl
   rw[show 1+(k-1)=k by omega]
   have c:nth l k=nth l (k-1):=by
    unfold gW at hf
    rw[decide_eq_false (by omega),Bool.false_or]at hf
    simpa using hf
   have t2:((k:Int)-1).toNat=k-1:=by omega
   have l2:=af4 l hl k h1 hk hf hx
   have cl:(Bu l).length≤l.length:=Bj _ _ _
   have ln:=zy (gW l) l (j:=l.length) (aLs _)
   have tk:(kA (gW l) l l.length).take (Bu l).length=Bu l:=by
    unfold kA Bu
    rw[List.take_left]
   generalize kA (gW l) l l.length=A at*
   generalize Bu l=U at*
   have al3:l.length=(List.map D.t (List.map (T.int .i64) A)).length:=by simp[ln]
   have al5:l.length=(List.take U.length (List.map D.t (List.map (T.int .i64) A))++List.replicate (l.length-U.length) (D.t (T.int .i64 0))++List.drop l.length (List.map D.t (List.map (T.int .i64) A))).length:=by
    simp only[aLv,List.length_take,List.length_replicate,List.length_drop,List.length_map]
    omega
   have ta:List.take U.length (List.map D.t (List.map (T.int .i64) A))=List.map D.t (List.map (T.int .i64) U):=by rw[← List.map_take,←List.map_take,tk]
   have ta2:∀x y:List D,List.take U.length (List.take U.length (List.map D.t (List.map (T.int .i64) A))++x++y)=List.map D.t (List.map (T.int .i64) U):=by
    intro x y
    rw[ta,List.append_assoc,List.take_left' (by simp)]
   refine⟨_,?_,?_,rfl⟩
   · simp(disch:=omega)only[go_sem,K.cU,↓reduceIte,t2,c,l2,ta2,reduceAdd,reduceSub]
   · simp
abbrev xm(l:List Int)(ep:Nat):Obj:= .arr 1 false ep ((l.map (T.int .i64)).map .t)
theorem aaT{l:List Int}(h:∀i,i<l.length→gW l i=true):Bu l=l:=by
 unfold Bu
 rw[RL _ _ (aLs _) h,List.take_length]
theorem N3(l:List Int)(hl:l.length≤200000):∃ep,aD 1 N.bf [.ref 0 0 l.length] [kF l]=some (.ref 0 ep (Bu l).length,[xm (Bu l) ep]):=by
 rcases R8 l with h | ⟨k,h1,hk,hf,hx⟩
 · refine⟨0,ao K.gJ rfl ?_⟩
   rw[aaT h]
   by_cases h2:l.length<2
   · simp(disch:=omega)only[go_sem,K.bf,↓reduceIte,h2,reduceAdd,reduceSub]
   · have l1:=R9 l hl (by omega) h
     simp(disch:=omega)only[go_sem,K.bf,↓reduceIte,h2,l1,reduceAdd,reduceSub]
 · refine⟨1,ao K.gJ rfl ?_⟩
   have l1:=N2 l hl k h1 hk hf hx
   have h2:¬l.length<2:=by omega
   generalize Bu l=U at*
   simp(disch:=omega)only[go_sem,K.bf,↓reduceIte,h2,reduceAdd,reduceSub]
   refine iz (l1 _ _ _) ?_
   simp(disch:=omega)only[go_sem,K.bf,↓reduceIte,reduceAdd,reduceSub]
theorem F8(a b:List Int)(ha:a.length≤100000)(hb:b.length≤100000):∃ep,aD 1 N.i4 [.t (tL a),.t (tL b)] []=some (.ref 0 ep (OO a b).length,[xm (OO a b) ep]):=by
 have cc:=R7 a b ha hb
 have sl:=kr (a++b)
 have ab:(a++b).length≤200000:=by rw[aLv];omega
 have so:=Z3 0 (a++b) (by omega)
 obtain⟨ep,co⟩:=N3 (je (a++b)) (by omega)
 refine⟨ep,ao K.tM rfl ?_⟩
 unfold OO
 rw[sl]at co
 generalize hc:a++b=c at*
 generalize je c=d at*
 generalize Bu d=u at*
 clear hc
 simp(disch:=omega)only[go_sem,K.i4,↓reduceIte,cc,so,co,reduceAdd,reduceSub]
section
variable (F : Nat) (q : Int → Bool) (t1 : T) (l : List Int) (hq : ∀ x, x ∈ l → aD 0 F [I x, .bp 0 0] [.box [.t t1]] = some (B (q x), [.box [.t t1]]))
include hq
theorem Vj(hl:l.length≤1000000)(ep:Nat):
 aD 0 N.aI [.ref 0 ep l.length,.fn F [.bp 1 0]] [xm l ep,.box [.t t1]]=
  some (I (match (List.range l.length).find? (fun j=>q (nth l j))with | some j=>(j:Int) | none=> -1),[xm l ep,.box [.t t1]]):=by
 refine ao K.dM rfl ?_
 have loop:∀z2 z3:D,exS aD K.eY ⟨[.ref 0 ep l.length,.fn F [.bp 1 0],z2,z3,I l.length,I 0],[xm l ep,.box [.t t1]]⟩=
  some (match (List.range l.length).find? (fun j=>q (nth l j))with
   | some j=>(.ret,⟨[.ref 0 ep l.length,.fn F [.bp 1 0],I j,I j,I l.length,I j],[xm l ep,.box [.t t1]]⟩)
   | none=>(.exit 0,⟨[.ref 0 ep l.length,.fn F [.bp 1 0],.und,.und,I l.length,I l.length],[xm l ep,.box [.t t1]]⟩)):=by
  intro z2 z3
  refine cH (fun j=>⟨[.ref 0 ep l.length,.fn F [.bp 1 0],.und,.und,I l.length,I j],[xm l ep,.box [.t t1]]⟩) l.length (fun j=>q (nth l j)) _ _ rfl ?_ ?_ ?_ (by simp)
  · intro j hj hp'
    have b1:=hq _ (ai hj)
    rw[hp']at b1
    simp(disch:=omega)only[go_sem,K.aY,↓reduceIte,b1,reduceAdd,reduceSub]
  · intro j hj hp'
    have b1:=hq _ (ai hj)
    rw[hp']at b1
    refine⟨?_,by simp⟩
    simp(disch:=omega)only[go_sem,K.aY,↓reduceIte,b1,reduceAdd,reduceSub]
  · simp(disch:=omega)only[go_sem,K.aY,↓reduceIte,reduceAdd,reduceSub]
 cases hf:(List.range l.length).find? (fun j=>q (nth l j))with
 | some j=>
   rw[hf]at loop
   simp(disch:=omega)only[go_sem,K.aI,↓reduceIte,loop,reduceAdd,reduceSub]
 | none=>
   rw[hf]at loop
   simp(disch:=omega)only[go_sem,K.aI,↓reduceIte,loop,reduceAdd,reduceSub]
theorem N4(hl:l.length≤1000000)(ep:Nat)(i:Nat)(hi:i<l.length)(hp:q (nth l i)=true)(hx:∀k,k<i→q (nth l k)=false)(z2 z5:D):
 exS aD K.gV ⟨[.ref 0 ep l.length,.fn F [.bp 1 0],z2,I i,I (i+1),z5],[xm l ep,.box [.t t1]]⟩=
  some (.exit 0,⟨[.ref 0 ep l.length,.fn F [.bp 1 0],.und,I (kN (fun i=> !q (nth l i)) l l.length).length,I l.length,.und],[xm (kA (fun i=> !q (nth l i)) l l.length) ep,.box [.t t1]]⟩):=by
 obtain⟨e1,e2⟩:=FY (fun i=> !q (nth l i)) l hi (fun k hk=>by simp only[hx k hk,Bool.not_false]) (by simp only[hp,Bool.not_true])
 refine bk (fun k=>⟨[.ref 0 ep l.length,.fn F [.bp 1 0],.und,I (kN (fun i=> !q (nth l i)) l (i+1+k)).length,I ((i+1+k:Nat)),.und],[xm (kA (fun i=> !q (nth l i)) l (i+1+k)) ep,.box [.t t1]]⟩) (l.length-(i+1)) ?_ ?_ ?_ (by simp)
 · simp only[Nat.add_zero,e1,e2]
   rfl
 · intro k hk
   have hj:i+1+k<l.length:=by omega
   rw[show i+1+(k+1)=i+1+k+1 from rfl]
   generalize i+1+k=j at*
   have tq:=hq _ (ai hj)
   have dl:=Bj (fun i=> !q (nth l i)) l j
   have ln:=zy (fun i=> !q (nth l i)) l (j:=j) (by omega)
   have nx:=Mh (fun i=> !q (nth l i)) l j (i:=j) dl
   have st:=RK (fun i=> !q (nth l i)) l hj
   have sm:=FX (fun i=> !q (nth l i)) l (j:=j)
   have sp:=vG (fun i=> !q (nth l i)) l j
   generalize kA (fun i=> !q (nth l i)) l j=A at*
   generalize kN (fun i=> !q (nth l i)) l j=G at*
   cases hc:q (nth l j)with
   | true=>
     rw[hc]at tq sm
     rw[(sm rfl).1,(sm rfl).2]
     simp(disch:=omega)only[go_sem,K.bI,↓reduceIte,tq,nx,Bool.not_true,reduceAdd,reduceSub]
   | false=>
     rw[hc]at tq st sp
     rw[← st rfl,sp,if_pos (show(!false)=true from rfl)]
     simp(disch:=omega)only[go_sem,K.bI,↓reduceIte,tq,nx,Bool.not_false,aLv,List.length_singleton,JK,reduceAdd,reduceSub]
 · have:i+1+(l.length-(i+1))=l.length:=by omega
   rw[this]
   have ln:=zy (fun i=> !q (nth l i)) l (j:=l.length) (aLs _)
   generalize kA (fun i=> !q (nth l i)) l l.length=A at*
   generalize kN (fun i=> !q (nth l i)) l l.length=G at*
   simp(disch:=omega)only[go_sem,K.bI,↓reduceIte,reduceAdd,reduceSub]
theorem Vk(hl:l.length≤1000000)(ep:Nat):
 ∃ep',aD 1 N.aL [.ref 0 ep l.length,.fn F [.bp 1 0]] [xm l ep,.box [.t t1]]=
  some (.ref 0 ep' (l.filter fun x=> !q x).length,[xm (l.filter fun x=> !q x) ep',.box [.t t1]]):=by
 have ix:=Vj F q t1 l hq hl ep
 cases hf:(List.range l.length).find? (fun j=>q (nth l j))with
 | none=>
   refine⟨ep,ao K.cP rfl ?_⟩
   rw[hf]at ix
   have de:l.filter (fun x=> !q x)=l:=by
    rw[List.filter_eq_self]
    intro e he
    obtain⟨j,hj,rfl⟩:=List.mem_iff_getElem.1 he
    have:=List.find?_eq_none.1 hf j (aLu.2 hj)
    have e2:nth l j=l[j]:=bC (aLc hj)
    rw[e2]at this
    simpa using this
   rw[de]
   simp(disch:=omega)only[go_sem,K.aL,↓reduceIte,ix,reduceAdd,reduceSub]
 | some i=>
   refine⟨ep+1,ao K.cP rfl ?_⟩
   rw[hf]at ix
   have hi:=aLu.1 (List.mem_of_find?_eq_some hf)
   have hp:=List.find?_some hf
   have lt:∀j,j<i→q (nth l j)=false:=by
    intro j hj
    have:=(List.find?_range_eq_some.1 hf).2.2 j hj
    simpa using this
   have lp:=N4 F q t1 l hq hl ep i hi hp lt
   have dl:=Bj (fun i=> !q (nth l i)) l l.length
   have al2:=zy (fun i=> !q (nth l i)) l (j:=l.length) (aLs _)
   have ke:kN (fun i=> !q (nth l i)) l l.length=l.filter (fun x=> !q x):=Ix (fun x=> !q x) l
   have da:(kA (fun i=> !q (nth l i)) l l.length).take (l.filter (fun x=> !q x)).length=l.filter (fun x=> !q x):=by
    unfold kA
    rw[ke,List.take_left]
   rw[ke]at dl lp
   generalize kA (fun i=> !q (nth l i)) l l.length=A at*
   generalize l.filter (fun x=> !q x)=G at*
   have ta:List.take G.length (List.map D.t (List.map (T.int .i64) A))=List.map D.t (List.map (T.int .i64) G):=by rw[← List.map_take,←List.map_take,da]
   have al3:l.length=(List.map D.t (List.map (T.int .i64) A)).length:=by simp[al2]
   have ta2:∀x y:List D,List.take G.length (List.take G.length (List.map D.t (List.map (T.int .i64) A))++x++y)=List.map D.t (List.map (T.int .i64) G):=by
    intro x y
    rw[ta,List.append_assoc,List.take_left' (by simp)]
   have al5:l.length=(List.take G.length (List.map D.t (List.map (T.int .i64) A))++List.replicate (l.length-G.length) (D.t (T.int .i64 0))++List.drop l.length (List.map D.t (List.map (T.int .i64) A))).length:=by
    simp only[aLv,List.length_take,List.length_replicate,List.length_drop,List.length_map]
    omega
   simp(disch:=omega)only[go_sem,K.aL,↓reduceIte,ix,lp,ta2,reduceAdd,reduceSub]
end
section
variable (F : Nat) (q : Int → Bool) (t1 t2 t3 t4 t5 t6 : T) (l : List Int) (hq : ∀ x, x ∈ l → aD 0 F [I x, .bp 0 0, .bp 1 0] [.box [.t t1, .t t2], .box [.t t3, .t t4, .t t5, .t t6]] = some (B (q x), [.box [.t t1, .t t2], .box [.t t3, .t t4, .t t5, .t t6]]))
include hq
theorem Vl(hl:l.length≤1000000)(ep:Nat):
 aD 0 N.aI [.ref 0 ep l.length,.fn F [.bp 1 0,.bp 2 0]] [xm l ep,.box [.t t1,.t t2],.box [.t t3,.t t4,.t t5,.t t6]]=
  some (I (match (List.range l.length).find? (fun j=>q (nth l j))with | some j=>(j:Int) | none=> -1),[xm l ep,.box [.t t1,.t t2],.box [.t t3,.t t4,.t t5,.t t6]]):=by
 refine ao K.dM rfl ?_
 have loop:∀z2 z3:D,exS aD K.eY ⟨[.ref 0 ep l.length,.fn F [.bp 1 0,.bp 2 0],z2,z3,I l.length,I 0],[xm l ep,.box [.t t1,.t t2],.box [.t t3,.t t4,.t t5,.t t6]]⟩=
  some (match (List.range l.length).find? (fun j=>q (nth l j))with
   | some j=>(.ret,⟨[.ref 0 ep l.length,.fn F [.bp 1 0,.bp 2 0],I j,I j,I l.length,I j],[xm l ep,.box [.t t1,.t t2],.box [.t t3,.t t4,.t t5,.t t6]]⟩)
   | none=>(.exit 0,⟨[.ref 0 ep l.length,.fn F [.bp 1 0,.bp 2 0],.und,.und,I l.length,I l.length],[xm l ep,.box [.t t1,.t t2],.box [.t t3,.t t4,.t t5,.t t6]]⟩)):=by
  intro z2 z3
  refine cH (fun j=>⟨[.ref 0 ep l.length,.fn F [.bp 1 0,.bp 2 0],.und,.und,I l.length,I j],[xm l ep,.box [.t t1,.t t2],.box [.t t3,.t t4,.t t5,.t t6]]⟩) l.length (fun j=>q (nth l j)) _ _ rfl ?_ ?_ ?_ (by simp)
  · intro j hj hp'
    have b1:=hq _ (ai hj)
    rw[hp']at b1
    simp(disch:=omega)only[go_sem,K.aY,↓reduceIte,b1,reduceAdd,reduceSub]
  · intro j hj hp'
    have b1:=hq _ (ai hj)
    rw[hp']at b1
    refine⟨?_,by simp⟩
    simp(disch:=omega)only[go_sem,K.aY,↓reduceIte,b1,reduceAdd,reduceSub]
  · simp(disch:=omega)only[go_sem,K.aY,↓reduceIte,reduceAdd,reduceSub]
 cases hf:(List.range l.length).find? (fun j=>q (nth l j))with
 | some j=>
   rw[hf]at loop
   simp(disch:=omega)only[go_sem,K.aI,↓reduceIte,loop,reduceAdd,reduceSub]
 | none=>
   rw[hf]at loop
   simp(disch:=omega)only[go_sem,K.aI,↓reduceIte,loop,reduceAdd,reduceSub]
theorem N5(hl:l.length≤1000000)(ep:Nat)(i:Nat)(hi:i<l.length)(hp:q (nth l i)=true)(hx:∀k,k<i→q (nth l k)=false)(z2 z5:D):
 exS aD K.gV ⟨[.ref 0 ep l.length,.fn F [.bp 1 0,.bp 2 0],z2,I i,I (i+1),z5],[xm l ep,.box [.t t1,.t t2],.box [.t t3,.t t4,.t t5,.t t6]]⟩=
  some (.exit 0,⟨[.ref 0 ep l.length,.fn F [.bp 1 0,.bp 2 0],.und,I (kN (fun i=> !q (nth l i)) l l.length).length,I l.length,.und],[xm (kA (fun i=> !q (nth l i)) l l.length) ep,.box [.t t1,.t t2],.box [.t t3,.t t4,.t t5,.t t6]]⟩):=by
 obtain⟨e1,e2⟩:=FY (fun i=> !q (nth l i)) l hi (fun k hk=>by simp only[hx k hk,Bool.not_false]) (by simp only[hp,Bool.not_true])
 refine bk (fun k=>⟨[.ref 0 ep l.length,.fn F [.bp 1 0,.bp 2 0],.und,I (kN (fun i=> !q (nth l i)) l (i+1+k)).length,I ((i+1+k:Nat)),.und],[xm (kA (fun i=> !q (nth l i)) l (i+1+k)) ep,.box [.t t1,.t t2],.box [.t t3,.t t4,.t t5,.t t6]]⟩) (l.length-(i+1)) ?_ ?_ ?_ (by simp)
 · simp only[Nat.add_zero,e1,e2]
   rfl
 · intro k hk
   have hj:i+1+k<l.length:=by omega
   rw[show i+1+(k+1)=i+1+k+1 from rfl]
   generalize i+1+k=j at*
   have tq:=hq _ (ai hj)
   have dl:=Bj (fun i=> !q (nth l i)) l j
   have ln:=zy (fun i=> !q (nth l i)) l (j:=j) (by omega)
   have nx:=Mh (fun i=> !q (nth l i)) l j (i:=j) dl
   have st:=RK (fun i=> !q (nth l i)) l hj
   have sm:=FX (fun i=> !q (nth l i)) l (j:=j)
   have sp:=vG (fun i=> !q (nth l i)) l j
   generalize kA (fun i=> !q (nth l i)) l j=A at*
   generalize kN (fun i=> !q (nth l i)) l j=G at*
   cases hc:q (nth l j)with
   | true=>
     rw[hc]at tq sm
     rw[(sm rfl).1,(sm rfl).2]
     simp(disch:=omega)only[go_sem,K.bI,↓reduceIte,tq,nx,Bool.not_true,reduceAdd,reduceSub]
   | false=>
     rw[hc]at tq st sp
     rw[← st rfl,sp,if_pos (show(!false)=true from rfl)]
     simp(disch:=omega)only[go_sem,K.bI,↓reduceIte,tq,nx,Bool.not_false,aLv,List.length_singleton,JK,reduceAdd,reduceSub]
 · have:i+1+(l.length-(i+1))=l.length:=by omega
   rw[this]
   have ln:=zy (fun i=> !q (nth l i)) l (j:=l.length) (aLs _)
   generalize kA (fun i=> !q (nth l i)) l l.length=A at*
   generalize kN (fun i=> !q (nth l i)) l l.length=G at*
   simp(disch:=omega)only[go_sem,K.bI,↓reduceIte,reduceAdd,reduceSub]
theorem Vm(hl:l.length≤1000000)(ep:Nat):
 ∃ep',aD 1 N.aL [.ref 0 ep l.length,.fn F [.bp 1 0,.bp 2 0]] [xm l ep,.box [.t t1,.t t2],.box [.t t3,.t t4,.t t5,.t t6]]=
  some (.ref 0 ep' (l.filter fun x=> !q x).length,[xm (l.filter fun x=> !q x) ep',.box [.t t1,.t t2],.box [.t t3,.t t4,.t t5,.t t6]]):=by
 have ix:=Vl F q t1 t2 t3 t4 t5 t6 l hq hl ep
 cases hf:(List.range l.length).find? (fun j=>q (nth l j))with
 | none=>
   refine⟨ep,ao K.cP rfl ?_⟩
   rw[hf]at ix
   have de:l.filter (fun x=> !q x)=l:=by
    rw[List.filter_eq_self]
    intro e he
    obtain⟨j,hj,rfl⟩:=List.mem_iff_getElem.1 he
    have:=List.find?_eq_none.1 hf j (aLu.2 hj)
    have e2:nth l j=l[j]:=bC (aLc hj)
    rw[e2]at this
    simpa using this
   rw[de]
   simp(disch:=omega)only[go_sem,K.aL,↓reduceIte,ix,reduceAdd,reduceSub]
 | some i=>
   refine⟨ep+1,ao K.cP rfl ?_⟩
   rw[hf]at ix
   have hi:=aLu.1 (List.mem_of_find?_eq_some hf)
   have hp:=List.find?_some hf
   have lt:∀j,j<i→q (nth l j)=false:=by
    intro j hj
    have:=(List.find?_range_eq_some.1 hf).2.2 j hj
    simpa using this
   have lp:=N5 F q t1 t2 t3 t4 t5 t6 l hq hl ep i hi hp lt
   have dl:=Bj (fun i=> !q (nth l i)) l l.length
   have al2:=zy (fun i=> !q (nth l i)) l (j:=l.length) (aLs _)
   have ke:kN (fun i=> !q (nth l i)) l l.length=l.filter (fun x=> !q x):=Ix (fun x=> !q x) l
   have da:(kA (fun i=> !q (nth l i)) l l.length).take (l.filter (fun x=> !q x)).length=l.filter (fun x=> !q x):=by
    unfold kA
    rw[ke,List.take_left]
   rw[ke]at dl lp
   generalize kA (fun i=> !q (nth l i)) l l.length=A at*
   generalize l.filter (fun x=> !q x)=G at*
   have ta:List.take G.length (List.map D.t (List.map (T.int .i64) A))=List.map D.t (List.map (T.int .i64) G):=by rw[← List.map_take,←List.map_take,da]
   have al3:l.length=(List.map D.t (List.map (T.int .i64) A)).length:=by simp[al2]
   have ta2:∀x y:List D,List.take G.length (List.take G.length (List.map D.t (List.map (T.int .i64) A))++x++y)=List.map D.t (List.map (T.int .i64) G):=by
    intro x y
    rw[ta,List.append_assoc,List.take_left' (by simp)]
   have al5:l.length=(List.take G.length (List.map D.t (List.map (T.int .i64) A))++List.replicate (l.length-G.length) (D.t (T.int .i64 0))++List.drop l.length (List.map D.t (List.map (T.int .i64) A))).length:=by
    simp only[aLv,List.length_take,List.length_replicate,List.length_drop,List.length_map]
    omega
   simp(disch:=omega)only[go_sem,K.aL,↓reduceIte,ix,lp,ta2,reduceAdd,reduceSub]
end
end Go.Ev
namespace Go.Ev
open Go
variable [Lib] [cu] [bM] [gu] [gk] [i7] [fK] [fI] [iv] [gj] [dq] [cT] [fT] [ff] [jA] [iY] [gC] [eC] [jL]
theorem Sa{m:aB}(hm:m.ok){e:Esc}(he:e.ok m)(p:Nat)(hp:p<m.aa.length):
 aD 0 N.bO [I p,.bp 0 0,.bp 1 0] [.box (ae m),.box (dZ e)]=some (B (aN m e p),[.box (ae m),.box (dZ e)]):=by
 refine ao K.kT rfl ?_
 have en:=wm hm he p hp
 generalize aN m e p=r at*
 obtain⟨aa,roads⟩:=m
 obtain⟨safe,bad,shut,bj⟩:=e
 simp only[ae,dZ]at*
 simp(disch:=omega)only[go_sem,K.bO,↓reduceIte,en,reduceAdd,reduceSub]
theorem Vn{b:Bel}{i t x:Int}:x∈nf b i t↔∃w∈b.av,0≤i∧i<w.whr.length∧x∈y0 (nth w.whr i.toNat) t∧0≤x∧x<64:=by
 unfold nf
 rw[Av]
 constructor
 · rintro ⟨k,rfl,k1,k2⟩
   unfold C1 at k2
   rw[List.any_eq_true]at k2
   obtain⟨q,q1,q2⟩:=k2
   simp only[aLr,decide_eq_true_eq]at q2
   exact⟨_,ai (aLu.1 q1),q2.1.1,q2.1.2,q2.2,by omega,by omega⟩
 · rintro ⟨w,hw,h1,h2,h3,h4,h5⟩
   refine⟨x.toNat,by omega,by omega,?_⟩
   unfold C1
   rw[List.any_eq_true]
   obtain⟨q,hq,rfl⟩:=List.mem_iff_getElem.1 hw
   have e2:nth b.av q=b.av[q]:=bC (aLc hq)
   refine⟨q,aLu.2 hq,?_⟩
   rw[e2]
   simp only[aLr,decide_eq_true_eq]
   refine⟨⟨h1,h2⟩,?_⟩
   rw[show((x.toNat:Nat):Int)=x by omega]
   exact h3
theorem Sb{m:aB}{b:Bel}(hb:qq m b=true){i t x:Int}(h:x∈nf b i t):0≤x∧x<m.aa.length:=by
 obtain⟨w,hw,h1,h2,h3,h4,h5⟩:=Vn.1 h
 have v:=(zj (ws:=b.av) hb).wv w hw
 have v:=(eZ (v.wv _ (ai (j:=i.toNat) (by omega)))).1
 rw[Rc,v]at h3
 exact⟨h3.1,h3.2.1⟩
def uN(b:Bel)(t:Int):Nat→List Int
 | 0=>[]
 | j+1=>OO (uN b t j) (nf b j t)
theorem Sc(b:Bel)(t x:Int):∀j,x∈uN b t j↔∃i:Nat,i<j∧x∈nf b i t
 | 0=>by simp[uN]
 | j+1=>by
   rw[uN,Mi,Sc b t x j]
   constructor
   · rintro (⟨i,h1,h2⟩ | h)
     · exact⟨i,by omega,h2⟩
     · exact⟨j,by omega,h⟩
   · rintro ⟨i,h1,h2⟩
     by_cases c:i=j
     · subst c;exact .inr h2
     · exact .inl ⟨i,by omega,h2⟩
theorem Dn(b:Bel)(t:Int):∀j,(uN b t j).length≤64*j
 | 0=>by simp[uN]
 | j+1=>by
   have:=Dn b t j
   have:=U8 (uN b t j) (nf b j t)
   have:=vk b j t
   simp only[uN]
   omega
abbrev aaU(l:List Int)(ep:Nat):Obj:= .arr 1 true ep ((l.map (T.int .i64)).map .t)
section
variable (m : aB) (e : Esc) (b : Bel) (hs : b.sz) (t : Int) (n : Nat) (hn : n ≤ 1000)
include hs hn
theorem aaV(hj:0<n):∃e1,gE false [0,1,2,7,9] 3 (exS aD K.bX ⟨[.und,.und,.und,I t,.bp 0 0,.bp 1 0,.bp 2 0,.und,.nil,.und,I n,I 0],[.box (ae m),.box (dZ e),.box [.t (.sl (b.av.map World.e))]]⟩)=some ⟨[.und,.und,.und,I t,.bp 0 0,.bp 1 0,.bp 2 0,.und,.ref 3 e1 (uN b t 1).length,.und,I n,I 1],[.box (ae m),.box (dZ e),.box [.t (.sl (b.av.map World.e))],xm (uN b t 1) e1]⟩:=by
 have ul:=Dn b t 0
 obtain⟨e1,un⟩:=F8 (uN b t 0) (nf b 0 t) (by omega) (by have:=vk b 0 t;omega)
 have po:=xZ b hs 0 t
 refine⟨e1,?_⟩
 have u1:OO (uN b t 0) (nf b 0 t)=uN b t 1:=rfl
 rw[u1]at un
 have u0:uN b t 0=[]:=rfl
 rw[u0]at un
 generalize uN b t 1=U1 at*
 generalize nf b 0 t=PP at*
 obtain⟨aa,roads⟩:=m
 obtain⟨safe,bad,shut,bj⟩:=e
 obtain⟨ws⟩:=b
 simp only[ae,dZ,tL,List.map_nil]at*
 simp(disch:=omega)only[go_sem,K.bX,↓reduceIte,po,un,reduceAdd,reduceSub]
theorem af5(hj:1<n)(e1:Nat):∃e2,gE false [0,1,2,7,9] 4 (exS aD K.bX ⟨[.und,.und,.und,I t,.bp 0 0,.bp 1 0,.bp 2 0,.und,.ref 3 e1 (uN b t 1).length,.und,I n,I 1],[.box (ae m),.box (dZ e),.box [.t (.sl (b.av.map World.e))],xm (uN b t 1) e1]⟩)=some ⟨[.und,.und,.und,I t,.bp 0 0,.bp 1 0,.bp 2 0,.und,.ref 4 e2 (uN b t 2).length,.und,I n,I 2],[.box (ae m),.box (dZ e),.box [.t (.sl (b.av.map World.e))],aaU (uN b t 1) e1,xm (uN b t 2) e2]⟩:=by
 have ul:=Dn b t 1
 obtain⟨e2,un⟩:=F8 (uN b t 1) (nf b 1 t) (by omega) (by have:=vk b 1 t;omega)
 have po:=xZ b hs 1 t
 refine⟨e2,?_⟩
 have u1:OO (uN b t 1) (nf b 1 t)=uN b t 2:=rfl
 rw[u1]at un
 generalize uN b t 2=U2 at*
 generalize nf b 1 t=PP at*
 generalize uN b t 1=U1 at*
 obtain⟨aa,roads⟩:=m
 obtain⟨safe,bad,shut,bj⟩:=e
 obtain⟨ws⟩:=b
 simp only[ae,dZ,tL]at*
 simp(disch:=omega)only[go_sem,K.bX,↓reduceIte,po,un,reduceAdd,reduceSub]
 rfl
theorem akp(hj:2<n)(e1 e2:Nat):∃e3,gE false [0,1,2,7,9] 5 (exS aD K.bX ⟨[.und,.und,.und,I t,.bp 0 0,.bp 1 0,.bp 2 0,.und,.ref 4 e2 (uN b t 2).length,.und,I n,I 2],[.box (ae m),.box (dZ e),.box [.t (.sl (b.av.map World.e))],aaU (uN b t 1) e1,xm (uN b t 2) e2]⟩)=some ⟨[.und,.und,.und,I t,.bp 0 0,.bp 1 0,.bp 2 0,.und,.ref 5 e3 (uN b t 3).length,.und,I n,I 3],[.box (ae m),.box (dZ e),.box [.t (.sl (b.av.map World.e))],aaU (uN b t 1) e1,aaU (uN b t 2) e2,xm (uN b t 3) e3]⟩:=by
 have ul:=Dn b t 2
 obtain⟨e3,un⟩:=F8 (uN b t 2) (nf b 2 t) (by omega) (by have:=vk b 2 t;omega)
 have po:=xZ b hs 2 t
 refine⟨e3,?_⟩
 have u1:OO (uN b t 2) (nf b 2 t)=uN b t 3:=rfl
 rw[u1]at un
 generalize uN b t 3=U3 at*
 generalize nf b 2 t=PP at*
 generalize uN b t 2=U2 at*
 generalize uN b t 1=U1 at*
 obtain⟨aa,roads⟩:=m
 obtain⟨safe,bad,shut,bj⟩:=e
 obtain⟨ws⟩:=b
 simp only[ae,dZ,tL]at*
 simp(disch:=omega)only[go_sem,K.bX,↓reduceIte,po,un,reduceAdd,reduceSub]
 rfl
end
theorem akq(m:aB)(e:Esc)(b:Bel)(hs:b.sz)(t:Int)(z0 z1 z2 z7 z9:D):∃e1,exS aD K.jH ⟨[z0,z1,z2,I t,.bp 0 0,.bp 1 0,.bp 2 0,z7,.nil,z9,I 1,I 0],[.box (ae m),.box (dZ e),.box [.t (.sl (b.av.map World.e))]]⟩=some (.exit 0,⟨[.und,.und,.und,I t,.bp 0 0,.bp 1 0,.bp 2 0,.und,.ref 3 e1 (uN b t 1).length,.und,I 1,I 1],[.box (ae m),.box (dZ e),.box [.t (.sl (b.av.map World.e))],xm (uN b t 1) e1]⟩):=by
 obtain⟨e1,r0⟩:=aaV m e b hs t 1 (by omega) (by omega)
 refine⟨e1,uT (fL r0 (eD ?_ (by simp)))⟩
 clear r0
 generalize uN b t 1=U1 at*
 obtain⟨aa,roads⟩:=m
 obtain⟨safe,bad,shut,bj⟩:=e
 obtain⟨ws⟩:=b
 simp only[ae,dZ,tL]at*
 simp(disch:=omega)only[go_sem,K.bX,↓reduceIte,reduceAdd,reduceSub]
theorem akr(m:aB)(e:Esc)(b:Bel)(hs:b.sz)(t:Int)(z0 z1 z2 z7 z9:D):∃e1 e2,exS aD K.jH ⟨[z0,z1,z2,I t,.bp 0 0,.bp 1 0,.bp 2 0,z7,.nil,z9,I 2,I 0],[.box (ae m),.box (dZ e),.box [.t (.sl (b.av.map World.e))]]⟩=some (.exit 0,⟨[.und,.und,.und,I t,.bp 0 0,.bp 1 0,.bp 2 0,.und,.ref 4 e2 (uN b t 2).length,.und,I 2,I 2],[.box (ae m),.box (dZ e),.box [.t (.sl (b.av.map World.e))],aaU (uN b t 1) e1,xm (uN b t 2) e2]⟩):=by
 obtain⟨e1,r0⟩:=aaV m e b hs t 2 (by omega) (by omega)
 obtain⟨e2,r1⟩:=af5 m e b hs t 2 (by omega) (by omega) e1
 refine⟨e1,e2,uT (fL r0 (fL r1 (eD ?_ (by simp))))⟩
 clear r0 r1
 generalize uN b t 1=U1 at*
 generalize uN b t 2=U2 at*
 obtain⟨aa,roads⟩:=m
 obtain⟨safe,bad,shut,bj⟩:=e
 obtain⟨ws⟩:=b
 simp only[ae,dZ,tL]at*
 simp(disch:=omega)only[go_sem,K.bX,↓reduceIte,reduceAdd,reduceSub]
theorem aks(m:aB)(e:Esc)(b:Bel)(hs:b.sz)(t:Int)(z0 z1 z2 z7 z9:D):∃e1 e2 e3,exS aD K.jH ⟨[z0,z1,z2,I t,.bp 0 0,.bp 1 0,.bp 2 0,z7,.nil,z9,I 3,I 0],[.box (ae m),.box (dZ e),.box [.t (.sl (b.av.map World.e))]]⟩=some (.exit 0,⟨[.und,.und,.und,I t,.bp 0 0,.bp 1 0,.bp 2 0,.und,.ref 5 e3 (uN b t 3).length,.und,I 3,I 3],[.box (ae m),.box (dZ e),.box [.t (.sl (b.av.map World.e))],aaU (uN b t 1) e1,aaU (uN b t 2) e2,xm (uN b t 3) e3]⟩):=by
 obtain⟨e1,r0⟩:=aaV m e b hs t 3 (by omega) (by omega)
 obtain⟨e2,r1⟩:=af5 m e b hs t 3 (by omega) (by omega) e1
 obtain⟨e3,r2⟩:=akp m e b hs t 3 (by omega) (by omega) e1 e2
 refine⟨e1,e2,e3,uT (fL r0 (fL r1 (fL r2 (eD ?_ (by simp)))))⟩
 clear r0 r1 r2
 generalize uN b t 1=U1 at*
 generalize uN b t 2=U2 at*
 generalize uN b t 3=U3 at*
 obtain⟨aa,roads⟩:=m
 obtain⟨safe,bad,shut,bj⟩:=e
 obtain⟨ws⟩:=b
 simp only[ae,dZ,tL]at*
 simp(disch:=omega)only[go_sem,K.bX,↓reduceIte,reduceAdd,reduceSub]
def fX(b:Bel):Nat:=(nth b.av 0).whr.length
def ni(m:aB)(e:Esc)(b:Bel)(t:Int):List Int:=(uN b t (fX b)).filter fun x=> !aN m e x.toNat
theorem Mq{m:aB}(hm:m.ok){e:Esc}(he:e.ok m){b:Bel}(hb:qq m b=true)(hs:b.sz)(h3:fX b≤3)(t:Int):
 aD 0 N.bE [.t m.e,.t e.e,.t b.e,I t] []=some (.t (tL (ni m e b t)),[]):=by
 refine ao K.mZ rfl ?_
 have w1:=(iR hb).1
 have hq:∀x,x∈uN b t (fX b)→aD 0 N.bO [I x,.bp 0 0,.bp 1 0] [.box (ae m),.box (dZ e)]=some (B (aN m e x.toNat),[.box (ae m),.box (dZ e)]):=by
  intro x hx
  obtain⟨i,_,hi⟩:=(Sc b t x _).1 hx
  have:=Sb hb hi
  obtain⟨p,rfl⟩:=Int.eq_ofNat_of_zero_le this.1
  exact Sa hm he p (by omega)
 have dl:=fun ep=>Vm N.bO (fun x=>aN m e x.toNat) (.sl (m.aa.map Place.e)) (.sl (m.roads.map Road.e)) (tL e.safe) (tL e.bad) (tL e.shut) (tI e.bj) (uN b t (fX b)) hq (by have:=Dn b t (fX b);omega) ep
 have p1:1≤fX b:=by
  have v:=zj (ws:=b.av) hb
  have:=(v.wv _ (ai (l:=b.av) (j:=0) (by omega))).wl
  have:=v.f1
  unfold fX
  omega
 have ex:(b.av.map World.e)[0]?=some (nth b.av 0).e:=b8 _ (by omega)
 have pe:(nth b.av 0).whr.length=fX b:=rfl
 have l1:=akq m e b hs t
 have l2:=akr m e b hs t
 have l3:=aks m e b hs t
 unfold ni
 generalize hn:fX b=n at*
 generalize hfl:List.filter (fun x=> !aN m e x.toNat) (uN b t n)=R at*
 have hc:n=1∨n=2∨n=3:=by omega
 clear hq hm he hb h3 p1
 generalize hw:nth b.av 0=w at*
 obtain⟨tg,wh⟩:=w
 simp only at pe
 rcases hc with rfl | hc
 · clear l2 l3
   have l1:=l1 (.t m.e) (.t e.e) (.t b.e) .nil .und
   obtain⟨e1,lp⟩:=l1
   obtain⟨ep,dl⟩:=dl e1
   generalize uN b t 1=U1 at*
   obtain⟨aa,roads⟩:=m
   obtain⟨safe,bad,shut,bj⟩:=e
   obtain⟨ws⟩:=b
   simp only[ae,dZ,tL]at*
   simp(disch:=omega)only[go_sem,K.bE,↓reduceIte,ex,pe,reduceAdd,reduceSub]
   refine iz lp ?_
   simp(disch:=omega)only[go_sem,K.bE,↓reduceIte,dl,reduceAdd,reduceSub]
 rcases hc with rfl | hc
 · clear l1 l3
   have l2:=l2 (.t m.e) (.t e.e) (.t b.e) .nil .und
   obtain⟨e1,e2,lp⟩:=l2
   obtain⟨ep,dl⟩:=dl e2
   generalize uN b t 2=U2 at*
   generalize uN b t 1=U1 at*
   obtain⟨aa,roads⟩:=m
   obtain⟨safe,bad,shut,bj⟩:=e
   obtain⟨ws⟩:=b
   simp only[ae,dZ,tL]at*
   simp(disch:=omega)only[go_sem,K.bE,↓reduceIte,ex,pe,reduceAdd,reduceSub]
   refine iz lp ?_
   simp(disch:=omega)only[go_sem,K.bE,↓reduceIte,dl,reduceAdd,reduceSub]
 subst hc
 clear l1 l2
 have l3:=l3 (.t m.e) (.t e.e) (.t b.e) .nil .und
 obtain⟨e1,e2,e3,lp⟩:=l3
 obtain⟨ep,dl⟩:=dl e3
 generalize uN b t 3=U3 at*
 generalize uN b t 2=U2 at*
 generalize uN b t 1=U1 at*
 obtain⟨aa,roads⟩:=m
 obtain⟨safe,bad,shut,bj⟩:=e
 obtain⟨ws⟩:=b
 simp only[ae,dZ,tL]at*
 simp(disch:=omega)only[go_sem,K.bE,↓reduceIte,ex,pe,reduceAdd,reduceSub]
 refine iz lp ?_
 simp(disch:=omega)only[go_sem,K.bE,↓reduceIte,dl,reduceAdd,reduceSub]
end Go.Ev
namespace Go.Ev
open Go
variable [Lib] [cu] [bM] [gu] [gk] [i7] [fK] [fI] [iv] [gj] [dq] [cT] [fT] [ff] [jA] [iY] [gC] [eC] [jL]
theorem Dp{n:aB}{b:Bel}{t:Int}(h0:(b7 n b t).2=0):
 (b7 n b t).1=⟨b.av.map (rnW n t)⟩∧1≤b.av.length∧b.av.length≤24∧∀x∈b.av,∀w∈x.whr,(dr n w t).2=0:=by
 unfold b7 at h0 ⊢
 split at h0
 · simp at h0
 · rename_i hl
   rw[if_neg hl]
   cases hf:(List.range b.av.length).find? (rx6 n t b.av)with
   | some i=>rw[hf]at h0;simp at h0
   | none=>
     rw[hf]at h0
     simp only at h0 ⊢
     by_cases hx:rnX n t b.av 0 b.av.length=0
     · have r8:=R5 n t b.av (F7 hf) b.av.length (aLs _)
       have z:=r8.2.1 hx
       refine⟨by rw[if_neg (by simp[hx])],by omega,by omega,?_⟩
       intro x hm w hw
       obtain⟨k,hk,rfl⟩:=List.mem_iff_getElem.1 hm
       have e1:nth b.av k=b.av[k]:=bC (aLc hk)
       have zk:=z k hk
       rw[e1]at zk
       obtain⟨j,hj,rfl⟩:=List.mem_iff_getElem.1 hw
       have e2:nth b.av[k].whr j=b.av[k].whr[j]:=bC (aLc hj)
       have:=zk j hj
       rw[e2]at this
       exact this
     · rw[if_pos hx]at h0;exact absurd h0 hx
theorem EP{m n:aB}(hn:n.ok){b:Bel}(hb:qq m b=true){t:Int}(h0:(b7 n b t).2=0):qq n (b7 n b t).1=true:=by
 obtain⟨e,l1,l2,hw⟩:=Dp h0
 rw[e]
 have v:=zj (ws:=b.av) hb
 have bv:BV n (nth b.av 0).tags (b.av.map (rnW n t)):=by
  refine⟨v.pr,v.f1,v.f2,?_,?_⟩
  · intro x hx
    obtain⟨y,hy,rfl⟩:=List.mem_map.1 hx
    have vy:=v.wv y hy
    refine⟨vy.pm,by simpa [rnW]using vy.wl,?_⟩
    intro w hw2
    simp only[rnW]at hw2
    obtain⟨u,hu,rfl⟩:=List.mem_map.1 hw2
    exact Kf hn (hw y hy u hu)
  · rw[List.pairwise_map]
    exact v.up
 exact bv.bel (by simpa using l1) (by simpa using l2)
theorem r5{n:aB}{b:Bel}{t:Int}(h0:(b7 n b t).2=0):fX (b7 n b t).1=fX b:=by
 obtain⟨e,l1,l2,hw⟩:=Dp h0
 rw[e]
 unfold fX
 simp only
 have:nth (b.av.map (rnW n t)) 0=rnW n t (nth b.av 0):=by
  refine bC ?_
  rw[aLn,cG (by omega)];rfl
 rw[this]
 simp[rnW]
end Go.Ev
namespace Go.Ev
open Go
variable [Lib] [cu] [bM] [gu] [gk] [i7] [fK] [fI] [iv] [gj] [dq] [cT] [fT] [ff] [jA] [iY]
end Go.Ev
namespace Go.Ev
open Go
variable [Lib] [cu] [bM] [gu] [gk] [i7] [fK] [fI] [iv] [gj] [dq] [cT]
def AW(P:Wh→Prop)(ws:List World):Prop:=∀x∈ws,∀w∈x.whr,P w
structure Kept(m:aB)(T:Int)(P:Wh→Prop):Prop where
 see:∀w l a b,P w→b≤T→P (DJ m w l a b).1
 abs:∀w l a b bl,P w→b≤T→P (Eu m w l a b bl).1
 raise:∀w t,P w→t≤T→P (oL w t).1
 join:∀a b,P a→P b→a.frm.length=b.frm.length→P (qN a b).1
theorem AW.set{P:Wh→Prop}{x:World}(h:∀w∈x.whr,P w)(tag:Int){w:Wh}(hw:(cN x.tags tag).toNat<x.whr.length→P w):∀y∈(J7 tag x w).whr,P y:=by
 intro y hy
 simp only[J7]at hy
 by_cases c:(cN x.tags tag).toNat<x.whr.length
 · rcases aLk hy with a | rfl
   · exact h y a
   · exact hw c
 · rw[List.set_eq_of_length_le (by omega)]at hy;exact h y hy
theorem F9{m:aB}{T:Int}{P:Wh→Prop}(k:Kept m T P){ws:List World}(h:AW P ws)(tag:Int)(l:List Int)(a b:Int)(hb:b≤T):∀j,j≤ws.length→AW P (pS m tag l a b ws j)
 | 0,_,x,hx=>by simp[pS]at hx
 | j+1,hj,x,hx=>by
   simp only[pS,HU]at hx
   have hn:=h _ (ai (l:=ws) (j:=j) (by omega))
   split at hx
   · exact F9 k h tag l a b hb j (by omega) x hx
   · rcases List.mem_append.1 hx with hx | hx
     · exact F9 k h tag l a b hb j (by omega) x hx
     · rw[List.mem_singleton.1 hx]
       split
       · exact AW.set hn tag fun c=>k.see _ _ _ _ (hn _ (ai c)) hb
       · exact hn
theorem Mr{m:aB}{T:Int}{P:Wh→Prop}(k:Kept m T P){ws:List World}(h:AW P ws)(tag:Int)(l:List Int)(a b bl:Int)(hb:b≤T):∀j,j≤ws.length→AW P (rV m tag l a b bl ws j)
 | 0,_,x,hx=>by simp[rV]at hx
 | j+1,hj,x,hx=>by
   simp only[rV,J8]at hx
   have hn:=h _ (ai (l:=ws) (j:=j) (by omega))
   rcases List.mem_append.1 hx with hx | hx
   · exact Mr k h tag l a b bl hb j (by omega) x hx
   · rw[List.mem_singleton.1 hx]
     split
     · exact AW.set hn tag fun c=>k.abs _ _ _ _ _ (hn _ (ai c)) hb
     · exact hn
theorem Ms{m:aB}{T:Int}{P:Wh→Prop}(k:Kept m T P){n:Nat}{a b:List Wh}(ha:∀w∈a,P w∧w.frm.length=n)(hb:∀w∈b,P w∧w.frm.length=n):∀p,p≤a.length→p≤b.length→∀w∈oC a b p,P w
 | 0,_,_,w,hw=>(ha w hw).1
 | p+1,h1,h2,w,hw=>by
   simp only[oC]at hw
   rcases aLk hw with hw | rfl
   · exact Ms k ha hb p (by omega) (by omega) w hw
   · have x:=ha _ (ai (l:=a) (j:=p) (by omega))
     have y:=hb _ (ai (l:=b) (j:=p) (by omega))
     exact k.join _ _ x.1 y.1 (by rw[x.2,y.2])
theorem Vo{m:aB}{T:Int}{P:Wh→Prop}(k:Kept m T P){first:List Int}{out:List World}{x:World}(ho:AW P out)(hx:∀w∈x.whr,P w)(wo:∀y∈out,WV m first y)(wx:WV m first x):AW P (tn out x):=by
 intro y hy
 unfold tn at hy
 split at hy
 · rename_i h
   rcases aLk hy with hy | rfl
   · exact ho y hy
   · have wk:=wo _ (ai h.1)
     exact Ms k (n:=m.aa.length) (fun w hw=>⟨ho _ (ai h.1) w hw,(eZ (wk.wv w hw)).1⟩) (fun w hw=>⟨hx w hw,(eZ (wx.wv w hw)).1⟩) _ (Nat.min_le_left _ _) (Nat.min_le_right _ _)
 · rcases List.mem_append.1 hy with hy | hy
   · rcases List.mem_append.1 hy with hy | hy
     · exact ho y (List.mem_of_mem_take hy)
     · rw[List.mem_singleton.1 hy];exact hx
   · exact ho y (List.mem_of_mem_drop hy)
theorem Mt{m:aB}(hm:m.ok){T:Int}{P:Wh→Prop}(k:Kept m T P){first:List Int}(pr:iG first=true)(f1:1≤first.length)(f2:first.length≤12){l:List World}(hl:AW P l)(wl:∀x∈l,WV m first x):∀j,j≤l.length→AW P (vh l j)
 | 0,_,y,hy=>by simp[vh]at hy
 | j+1,h,y,hy=>Vo k (Mt hm k pr f1 f2 hl wl j (by omega)) (hl _ (ai (by omega))) (FM hm pr f1 f2 wl j (by omega)).wv (wl _ (ai (by omega))) y hy
theorem Vp{m:aB}{T:Int}{P:Wh→Prop}(k:Kept m T P){i j:Nat}{t:Int}(ht:t≤T){x:World}(h:∀w∈x.whr,P w):∀w∈(xX i j t x).whr,P w:=by
 intro w hw
 simp only[xX]at hw
 have one:∀ {l:List Wh},(∀w∈l,P w)→∀i,∀w∈l.set i (oL (nth x.whr i) t).1,i<x.whr.length∨l.length=x.whr.length→P w:=by
  intro l hl i w hw hlen
  by_cases c:i<x.whr.length
  · rcases aLk hw with a | rfl
    · exact hl w a
    · exact k.raise _ _ (h _ (ai c)) ht
  · rcases hlen with a | a
    · exact(c a).elim
    · rw[List.set_eq_of_length_le (by omega)]at hw;exact hl w hw
 by_cases c:j<x.whr.length
 · rcases aLk hw with a | rfl
   · exact one h i w a (.inr rfl)
   · exact k.raise _ _ (h _ (ai c)) ht
 · rw[List.set_eq_of_length_le (by rw[List.length_set];omega)]at hw
   exact one h i w hw (.inr rfl)
theorem Dq{m:aB}{T:Int}{P:Wh→Prop}(k:Kept m T P){ws:List World}(h:AW P ws){i j:Nat}{t:Int}(ht:t≤T):∀q,q≤ws.length→AW P (kh i j t ws q)
 | 0,_=>h
 | q+1,hq=>fun x hx=>by
   simp only[kh,C3]at hx
   split at hx
   · rcases List.mem_append.1 hx with hx | hx
     · exact Dq k h ht q (by omega) x hx
     · rw[List.mem_singleton.1 hx];exact Vp k ht (h _ (ai (by omega)))
   · exact Dq k h ht q (by omega) x hx
theorem N6{m:aB}(hm:m.ok){T:Int}{P:Wh→Prop}(k:Kept m T P){n:Int}{s:BSt}(hb:qq m s.b=true)(h:AW P s.b.av)(ht:s.t+118≤T):AW P (aG.mT m n s).b.av:=by
 have a0:=s.d.fA 60
 have a9:=s.d.fB (n:=60) (by omega)
 unfold aG.mT
 simp only
 generalize s.d.next 60=a at*
 obtain⟨a1,d1⟩:=a
 simp only at a0 a9 ⊢
 obtain⟨⟨ws⟩,t,d⟩:=s
 simp only at*
 have bv:=zj hb
 obtain⟨w1,w2,f1,f2, -⟩:=iR hb
 split
 · simp only
   split
   · generalize ((d1.next 3).2.next n).1=i
     generalize (((d1.next 3).2.next n).2.next n).1=j
     unfold pT
     split
     · exact h
     · split
       · exact h
       · rename_i hij
         simp only at hij
         split
         · exact h
         · split
           · exact h
           · exact Mt hm k bv.pr bv.f1 bv.f2 (Dq k h (by omega) _ (aLs _)) (zn hm bv.wv (by omega) (by omega) _ _ (aLs _)) _ (aLs _)
   · exact h
 · split
   · simp only
     split
     · have e9:=((((d1.next 3).2.next n).2.oW m.aa.length).2).fB (n:=9) (by omega)
       generalize (((d1.next 3).2.next n).2.oW m.aa.length)=l at*
       generalize (l.2.next 9).1=e at*
       unfold vf
       split
       · exact h
       · split
         · exact h
         · split
           · exact h
           · exact F9 k h _ _ _ _ (by omega) _ (aLs _)
     · exact h
   · simp only
     split
     · unfold vg
       split
       · exact h
       · split
         · exact h
         · exact Mr k h _ _ _ _ _ (by omega) _ (aLs _)
     · exact h
theorem Sd{m:aB}(hm:m.ok){T:Int}{P:Wh→Prop}(k:Kept m T P){n:Int}{s:BSt}(hb:qq m s.b=true)(h:AW P s.b.av):∀(q:Nat),s.t+60*q+118≤T+60→AW P (aG.Au m n s q).b.av∧(aG.Au m n s q).t≤s.t+60*q
 | 0,_=>⟨h,by simp[aG.Au]⟩
 | q+1,hq=>by
   obtain⟨h1,h2⟩:=Sd hm k (n:=n) hb h q (by omega)
   have ht:=(H8 (m:=m) (n:=n) (s:=aG.Au m n s q)).2
   exact⟨N6 hm k (Aw hm hb q) h1 (by omega),by simp only[aG.Au];omega⟩
theorem Se{m:aB}(hm:m.ok)(h1:1≤m.aa.length)(d:aG){P:Wh→Prop}(k:Kept m 500 P)(hs:∀p t,0≤p→p<(m.aa.length:Int)→0≤t→t<100→P (iP m p t).1):AW P (d.vi m).1.av:=by
 have v0:=EK hm h1 d
 have k9:=((d.oM m).2.next 100).2.fB (n:=5) (by omega)
 have k0:=((d.oM m).2.next 100).2.fA 5
 have kk:d.QS m≤4:=by unfold aG.QS;omega
 have t0:=(d.oM m).2.fA 100
 have t9:=(d.oM m).2.fB (n:=100) (by omega)
 have tl:=mS d.qV
 have sl:(d.oM m).1.length=d.qV:=aG.mh _ _ _
 have a0:AW P (d.OH m).b.av:=by
  unfold aG.OH
  rw[FI hm h1]
  intro x hx w hw
  rw[List.mem_singleton.1 hx]at hw
  simp only[jw,List.mem_map,aLu]at hw
  obtain⟨i,hi,rfl⟩:=hw
  have:=vj (d.next 3).2 (n:=m.aa.length) (by omega) d.qV _ (ai (l:=(d.oM m).1) (j:=i) (by omega))
  exact hs _ _ this.1 this.2 t0 t9
 exact(Sd hm k (n:=d.qV) v0 a0 (d.QS m) (by show(100:Int)+_+_≤_;omega)).1
theorem Sf(m:aB):Kept m 500 fun w=>w.time≤500 where
 see w l a b h hb:=by
  unfold DJ
  split
  · exact h
  · split
    · exact h
    · split
      · exact hb
      · exact h
 abs w l a b bl h hb:=by
  unfold Eu
  split
  · exact h
  · split
    · exact h
    · split
      · exact h
      · split
        · exact h
        · exact hb
 raise w t h ht:=by unfold oL;split;exact h;exact ht
 join a b ha hb e:=by
  unfold qN
  rw[if_pos e]
  simp only;omega
theorem Kx{m:aB}(hm:m.ok)(h1:1≤m.aa.length)(d:aG):AW (fun w=>w.time≤500) (d.vi m).1.av:=
 Se hm h1 d (Sf m) fun p t p0 p1 t0 t1=>by
  rw[(CR hm p0 p1 (t:=t) ⟨t0,by omega⟩).1]
  simp only;omega
def ID:List Int→List (List Int)
 | []=>[[]]
 | a::l=>(ID l).flatMap fun p=>(List.range (p.length+1)).map fun i=>p.take i++a::p.drop i
theorem IE:∀ {l t:List Int},t.Perm l→t∈ID l
 | [],t,h=>by rw[List.perm_nil.1 h];simp[ID]
 | a::l,t,h=>by
   obtain⟨s1,s2,rfl⟩:=List.append_of_mem (h.mem_iff.2 List.mem_cons_self)
   have p:(s1++s2).Perm l:=(List.perm_cons a).1 ((List.perm_middle.symm).trans h)
   simp only[ID,List.mem_flatMap,List.mem_map,aLu]
   exact⟨_,IE p,s1.length,by rw[aLv];omega,by simp⟩
theorem N7{m:aB}{first:List Int}{ws:List World}(h:BV m first ws)(f:first.length≤3):ws.length≤6:=by
 have nd:(ws.map World.tags).Nodup:=by
  rw[List.Nodup,List.pairwise_map]
  exact h.up.imp fun h e=>afD h e
 have sub:(ws.map World.tags) ⊆ ID first:=by
  intro t ht
  obtain⟨x,hx,rfl⟩:=List.mem_map.1 ht
  exact IE (h.wv x hx).pm
 have:=nd.length_le_of_subset sub
 rw[List.length_map]at this
 have f1:=h.f1
 match first,f,f1 with
 | [a],_,_=>exact Nat.le_trans this (by decide:1≤6)
 | [a,b],_,_=>exact Nat.le_trans this (by show 2≤6;decide)
 | [a,b,c],_,_=>exact Nat.le_trans this (by show 6≤6;decide)
theorem Vq{d:aG}(hd:d.dQ){m:aB}(hm:m.ok)(h1:1≤m.aa.length):
 ∃(b:Bel) (e:aG),aD 0 N.cZ [.bp 0 0,.t m.e] [d.obj]=some (.t b.e,[e.obj])∧e.dQ∧qq m b=true∧b.sz∧b.av.length≤6∧(nth b.av 0).tags.length≤3∧AW (fun w=>w.time≤500) b.av:=by
 have g:=QX hm h1 hd
 have v:=Ic hm h1 d
 have bp:=C6 d
 have n:(nth (d.vi m).1.av 0).tags.length≤3:=by
  have:=(g.1.ws _ (ai (l:=(d.vi m).1.av) (j:=0) (by have:=g.1.w1;omega))).tg
  omega
 refine⟨_,_,Q0 hm h1 d hd,g.2,v,g.1.sz hm,?_,n,Kx hm h1 d⟩
 have bv:=zj (m:=m) (ws:=(d.vi m).1.av) v
 exact N7 bv n
end Go.Ev
namespace Go.Ev
open Go
variable [Lib] [cu] [bM] [gu]
def OQ(l:List Wh)(t:Int):Nat→Int
 | 0=>t
 | j+1=>max (OQ l t j) (nth l j).time
def DP(ws:List World):Nat→Int
 | 0=>0
 | i+1=>OQ (nth ws i).whr (DP ws i) (nth ws i).whr.length
def N8(b:Bel):Int:=DP b.av b.av.length
theorem aaW(b:Bel)(hb:b.sz):aD 0 N.ly [.t b.e] []=some (I (N8 b),[]):=by
 refine ao K.xT rfl ?_
 unfold N8
 obtain⟨ws⟩:=b
 obtain⟨s1,s2⟩:=hb
 simp only at s1 s2 ⊢
 have inner:∀i,i<ws.length→∀(t:Int) (a b:D),exS aD K.A4 ⟨[a,.bp 0 0,b,I t,I i,I 0],[.box [.t (.sl (ws.map World.e))]]⟩=
  some (.exit 2,⟨[.und,.bp 0 0,.und,I (OQ (nth ws i).whr t (nth ws i).whr.length),I i,I (nth ws i).whr.length],[.box [.t (.sl (ws.map World.e))]]⟩):=by
  intro i hi t a b
  have g1:(ws.map World.e)[i]?=some (nth ws i).e:=b8 _ hi
  have sz:=(s2 _ (ai hi)).2.1
  refine bk (fun j=>⟨[.und,.bp 0 0,.und,I (OQ (nth ws i).whr t j),I i,I j],[.box [.t (.sl (ws.map World.e))]]⟩) (nth ws i).whr.length rfl ?_ ?_ (by simp)
  · intro j hj
    have g2:((nth ws i).whr.map Wh.e)[j]?=some (nth (nth ws i).whr j).e:=b8 _ hj
    simp only[OQ]
    generalize OQ (nth ws i).whr t j=q at*
    generalize nth (nth ws i).whr j=w at*
    generalize nth ws i=x at*
    obtain⟨tags,whr⟩:=x
    obtain⟨time,frm⟩:=w
    simp only at*
    simp(disch:=omega)only[go_sem,K.sW,↓reduceIte,g1,g2,reduceAdd,reduceSub]
  · generalize OQ (nth ws i).whr t (nth ws i).whr.length=q at*
    generalize nth ws i=x at*
    obtain⟨tags,whr⟩:=x
    simp only at*
    simp(disch:=omega)only[go_sem,K.sW,↓reduceIte,g1,reduceAdd,reduceSub]
 have loop:∀a b c:D,exS aD K.A5 ⟨[a,.bp 0 0,b,I 0,I 0,c],[.box [.t (.sl (ws.map World.e))]]⟩=
  some (.exit 0,⟨[.und,.bp 0 0,.und,I (DP ws ws.length),I ws.length,.und],[.box [.t (.sl (ws.map World.e))]]⟩):=by
  intro a b c
  refine bk (fun i=>⟨[.und,.bp 0 0,.und,I (DP ws i),I i,.und],[.box [.t (.sl (ws.map World.e))]]⟩) ws.length rfl ?_ ?_ (by simp)
  · intro i hi
    have inner:=fun t a b=>inner i hi t a b
    simp(disch:=omega)only[go_sem,K.sX,↓reduceIte,inner,DP,reduceAdd,reduceSub]
  · simp(disch:=omega)only[go_sem,K.sX,↓reduceIte,reduceAdd,reduceSub]
 simp(disch:=omega)only[go_sem,K.ly,↓reduceIte,loop,reduceAdd,reduceSub]
end Go.Ev
namespace Go.Ev
open Go
variable [Lib] [cu] [bM] [gu] [gk] [i7] [fK] [fI] [iv] [gj] [dq] [cT] [fT] [ff] [jA] [iY]
theorem Sg(l:List Wh)(t:Int):∀j,t≤OQ l t j∧∀k,k<j→(nth l k).time≤OQ l t j
 | 0=>⟨Int.le_refl _,fun k h=>by omega⟩
 | j+1=>by
   obtain⟨h1,h2⟩:=Sg l t j
   simp only[OQ]
   refine⟨by omega,fun k hk=>?_⟩
   by_cases c:k=j
   · subst c;omega
   · have:=h2 k (by omega);omega
theorem Mu(ws:List World):∀i,0≤DP ws i∧∀k,k<i→∀j,j<(nth ws k).whr.length→(nth (nth ws k).whr j).time≤DP ws i
 | 0=>⟨Int.le_refl _,fun k h=>by omega⟩
 | i+1=>by
   obtain⟨h1,h2⟩:=Mu ws i
   obtain⟨g1,g2⟩:=Sg (nth ws i).whr (DP ws i) (nth ws i).whr.length
   simp only[DP]
   refine⟨by omega,fun k hk j hj=>?_⟩
   by_cases c:k=i
   · subst c;exact g2 j hj
   · have:=h2 k (by omega) j hj;omega
theorem aaX(b:Bel):0≤N8 b∧∀x∈b.av,∀w∈x.whr,w.time≤N8 b:=by
 obtain⟨h1,h2⟩:=Mu b.av b.av.length
 refine⟨h1,fun x hx w hw=>?_⟩
 obtain⟨i,hi,rfl⟩:=List.getElem_of_mem hx
 obtain⟨j,hj,rfl⟩:=List.getElem_of_mem hw
 have e:nth b.av i=b.av[i]:=bC (aLc hi)
 have:=h2 i hi j (by rw[e];exact hj)
 rwa [e,bC (aLc hj)]at this
theorem Si{l:List Wh}{M t:Int}(ht:t≤M)(h:∀w∈l,w.time≤M):∀j,j≤l.length→OQ l t j≤M
 | 0,_=>ht
 | j+1,hj=>by
   have h1:=Si ht h j (by omega)
   have h2:=h _ (ai (l:=l) (j:=j) (by omega))
   simp only[OQ];omega
theorem Mv{ws:List World}{M:Int}(h0:0≤M)(h:AW (fun w=>w.time≤M) ws):∀i,i≤ws.length→DP ws i≤M
 | 0,_=>h0
 | i+1,hi=>Si (Mv h0 h i (by omega)) (h _ (ai (by omega))) _ (aLs _)
theorem aaY{b:Bel}(h:AW (fun w=>w.time≤500) b.av):N8 b≤500:=Mv (by omega) h _ (aLs _)
structure SlF(bm:aB)(w:Wh)(t:Int):Prop where
 ln:(Uz bm w t).frm.length=bm.aa.length
 bd:bnd (Uz bm w t).frm
 cl:clW bm t none (Uz bm w t).frm
 le:∀j,j<bm.aa.length→nth (Uz bm w t).frm j≤if t<nth w.frm j then 1099511627776 else nth w.frm j
end Go.Ev
namespace Go.Ev
open Go
variable [Lib] [cu] [bM] [gu] [gk] [i7] [fK] [fI] [iv] [gj] [dq] [cT] [fT] [ff] [jA] [iY] [gC] [eC] [jL]
def r6(t ahead:Int):Bool:=decide (0≤t∧t≤2147483648)&&decide (0≤ahead∧ahead≤2147483648)
theorem ER{m:aB}(hm:m.ok){e:Esc}(he:e.ok m){b:Bel}(hb:qq m b=true)(hs:b.sz)(t ahead:Int):
 aD 0 N.cB [.t m.e,.t e.e,.t b.e,I t,I ahead] []=some (I (if r6 t ahead=true then 0 else 8),[]):=by
 refine ao K.kR rfl ?_
 have v1:=oa hm he
 have v2:=Nz hm b hs
 rw[hb]at v2
 have i1:=Bq t 0 2147483648
 have i2:=Bq ahead 0 2147483648
 unfold r6
 generalize decide (0≤t∧t≤2147483648)=c1 at*
 generalize decide (0≤ahead∧ahead≤2147483648)=c2 at*
 obtain⟨aa,roads⟩:=m
 obtain⟨safe,bad,shut,bj⟩:=e
 obtain⟨ws⟩:=b
 cases c1<;>cases c2
 all_goals simp(disch:=omega)only[go_sem,K.cB,↓reduceIte,v1,v2,i1,i2,Bool.not_true,Bool.not_false,Bool.and_self,Bool.and_true,Bool.and_false,Bool.false_and,reduceAdd,reduceSub]
theorem Vr{m:aB}(hm:m.ok){e:Esc}(he:e.ok m){b:Bel}(hb:qq m b=true)(hs:b.sz)(h3:fX b≤3)(t ahead:Int):
 aD 0 N.dh [.t m.e,.t e.e,.t b.e,I t,I ahead] []=some (if r6 t ahead=true then .tup [.t (tL (ni m e b (t+ahead))),I 0]else .tup [.t (tL []),I 8],[]):=by
 refine ao K.mY rfl ?_
 have ck:=ER hm he hb hs t ahead
 have nm:=Mq hm he hb hs h3 (t+ahead)
 cases hc:r6 t ahead with
 | true=>
   rw[hc,if_pos rfl]at ck
   rw[if_pos rfl]
   have:0≤t∧t≤2147483648∧0≤ahead∧ahead≤2147483648:=by
    unfold r6 at hc
    simp only[aLr,decide_eq_true_eq]at hc
    exact⟨hc.1.1,hc.1.2,hc.2.1,hc.2.2⟩
   generalize ni m e b (t+ahead)=R at*
   obtain⟨aa,roads⟩:=m
   obtain⟨safe,bad,shut,bj⟩:=e
   obtain⟨ws⟩:=b
   simp(disch:=omega)only[go_sem,K.dh,↓reduceIte,ck,nm,reduceAdd,reduceSub]
 | false=>
   rw[hc,if_neg (by simp)]at ck
   rw[if_neg (by simp)]
   clear nm
   obtain⟨aa,roads⟩:=m
   obtain⟨safe,bad,shut,bj⟩:=e
   obtain⟨ws⟩:=b
   simp only[tL,List.map_nil]at*
   simp(disch:=omega)only[go_sem,K.dh,↓reduceIte,ck,reduceAdd,reduceSub]
theorem wA(m:aB)(e:Esc)(b:Bel)(t:Int)(h3:fX b≤3):(ni m e b t).length≤192:=by
 unfold ni
 have:=List.length_filter_le (fun x=> !aN m e x.toNat) (uN b t (fX b))
 have:=Dn b t (fX b)
 omega
def puN(A l:List Int):Nat→List Int
 | 0=>A
 | j+1=>GK (puN A l j) (nth l j)
theorem Sj(A l:List Int):∀j,(puN A l j).length≤A.length+j
 | 0=>aLs _
 | j+1=>by
   have:=Sj A l j
   have:=Vb (puN A l j) (nth l j)
   simp only[puN];omega
theorem Xb{A l:List Int}(h:A.Pairwise (· < ·)):∀j,(puN A l j).Pairwise (· < ·)
 | 0=>h
 | j+1=>RM (Xb h j) _
theorem Sk(A l:List Int)(x:Int):∀j,j≤l.length→(x∈puN A l j↔x∈A∨x∈l.take j)
 | 0,_=>by simp[puN]
 | j+1,h=>by
   rw[puN,zz,Sk A l x j (by omega),List.take_succ,cG (by omega),List.mem_append]
   simp only[Option.toList,List.mem_singleton]
   constructor
   · rintro (a | a | a)
     · exact .inr (.inr a)
     · exact .inl a
     · exact .inr (.inl a)
   · rintro (a | a | a)
     · exact .inr (.inl a)
     · exact .inr (.inr a)
     · exact .inl a
theorem lt_eq{a b:List Int}(ha:a.Pairwise (· < ·))(hb:b.Pairwise (· < ·))(h:∀x,x∈a↔x∈b):a=b:=by
 have na:a.Nodup:=ha.imp fun h=>by omega
 have nb:b.Nodup:=hb.imp fun h=>by omega
 refine List.Perm.eq_of_pairwise (le:=(· < ·)) (fun a b _ _ h1 h2=>by omega) ha hb ?_
 exact(List.perm_ext_iff_of_nodup na nb).2 h
theorem af6(b:Bel)(t:Int):∀j,(uN b t j).Pairwise (· < ·)
 | 0=>List.Pairwise.nil
 | j+1=>aaJ _ _
theorem af7(b:Bel)(t:Int)(j:Nat):puN (uN b t j) (nf b j t) (nf b j t).length=uN b t (j+1):=by
 refine lt_eq (Xb (af6 b t j) _) (af6 b t (j+1)) (fun x=>?_)
 rw[Sk _ _ _ _ (aLs _),List.take_length,uN,Mi]
theorem Vs(l:List Int)(x:Int)(hl:l.length≤1000000):aD 0 N.lF [.t (tL l),I x] []=some (.t (tL (GK l x)),[]):=by
 refine ao K.x9 rfl ?_
 have:=Kq l x hl
 simp(disch:=omega)only[go_sem,K.lF,↓reduceIte,this,reduceAdd,reduceSub]
def nlT(l:List Int):D:=if l=[]then .nil else .t (tL l)
theorem af8:nlT []= .nil:=rfl
theorem Vt{l:List Int}(h:l≠[]):nlT l= .t (tL l):=if_neg h
theorem Xc(l:List Int):nlT l= .nil∨∃x,nlT l= .t x:=by
 unfold nlT;split
 · exact .inl rfl
 · exact .inr ⟨_,rfl⟩
theorem aaZ(l:List Int)(x:Int):GK l x≠[]:=by
 intro h
 have:=(zz l x x).2 (.inl rfl)
 rw[h]at this;simp at this
theorem Sl{m:aB}(hm:m.ok){e:Esc}(he:e.ok m){b:Bel}(hb:qq m b=true)(hs:b.sz)(h3:fX b≤3)(t ahead:Int)(t0:0≤t)(t1:t≤2147483648)(a0:0≤ahead)(a1:ahead≤2147483648):
 aD 0 N.dC [.t m.e,.t e.e,.t b.e,I t,I ahead] []=some (.tup [.t (tL (ni m e b (t+ahead))),I 0],[]):=by
 refine ao K.o5 rfl ?_
 have v1:=tP hm he
 have v2:=FB hm b hs
 rw[hb]at v2
 have w1:=(iR hb).1
 have lows:∀x,x∈uN b (t+ahead) (fX b)→0≤x∧x<m.aa.length:=by
  intro x hx
  obtain⟨i,_,hi⟩:=(Sc b (t+ahead) x _).1 hx
  exact Sb hb hi
 have hq:∀x,x∈uN b (t+ahead) (fX b)→aD 0 N.bT [.t m.e,.t e.e,I x] []=some (B (aN m e x.toNat),[]):=by
  intro x hx
  have:=lows x hx
  obtain⟨p,rfl⟩:=Int.eq_ofNat_of_zero_le this.1
  exact wz hm he (p:=p) (by omega)
 have ex:(b.av.map World.e)[0]?=some (nth b.av 0).e:=b8 _ (by omega)
 have pe:(nth b.av 0).whr.length=fX b:=rfl
 have po:=fun i=>FE b hs i (t+ahead)
 have pl:=fun i=>vk b i (t+ahead)
 have ul:=Dn b (t+ahead)
 have pu:=af7 b (t+ahead)
 have l2:∀(i:Nat),i<fX b→∀z0 z1 z2 z8 z9 z14 z15:D,exS aD K.xi ⟨[z0,z1,z2,I t,I ahead,.bp 0 0,.bp 1 0,.bp 2 0,z8,z9,nlT (uN b (t+ahead) i),I i,.t (tL (nf b i (t+ahead))),I 0,z14,z15],[.box (ae m),.box (dZ e),.box [.t (.sl (b.av.map World.e))]]⟩=
  some (.exit 2,⟨[.und,.und,.und,I t,I ahead,.bp 0 0,.bp 1 0,.bp 2 0,.und,.und,nlT (uN b (t+ahead) (i+1)),I i,.t (tL (nf b i (t+ahead))),I (nf b i (t+ahead)).length,.und,.und],[.box (ae m),.box (dZ e),.box [.t (.sl (b.av.map World.e))]]⟩):=by
  intro i hi z0 z1 z2 z8 z9 z14 z15
  rw[← pu i]
  have p1:=pl i
  have p2:=ul i
  clear hq lows ul pu po pl
  generalize nf b i (t+ahead)=P at*
  generalize uN b (t+ahead) i=A at*
  refine bk (fun j=>⟨[.und,.und,.und,I t,I ahead,.bp 0 0,.bp 1 0,.bp 2 0,.und,.und,nlT (puN A P j),I i,.t (tL P),I j,.und,.und],[.box (ae m),.box (dZ e),.box [.t (.sl (b.av.map World.e))]]⟩) P.length rfl ?_ ?_ (by simp)
  · intro j hj
    have q:=Sj A P j
    have rp:=Vs (puN A P j) (nth P j) (by omega)
    simp only[puN]
    rw[Vt (aaZ _ _)]
    by_cases h0:puN A P j=[]
    · rw[h0,af8]
      rw[h0]at rp
      simp only[tL,List.map_nil]at rp
      generalize GK [] (nth P j)=R at*
      generalize hy:nth P j=y at*
      simp(disch:=omega)only[go_sem,K.m5,↓reduceIte,rp,hy,reduceAdd,reduceSub]
    · rw[Vt h0]
      generalize GK (puN A P j) (nth P j)=R at*
      generalize puN A P j=Q at*
      generalize hy:nth P j=y at*
      simp(disch:=omega)only[go_sem,K.m5,↓reduceIte,rp,hy,reduceAdd,reduceSub]
  · generalize nlT (puN A P P.length)=Q at*
    simp(disch:=omega)only[go_sem,K.m5,↓reduceIte,reduceAdd,reduceSub]
 have l1:∀z0 z1 z2 z8 z9 z12 z13 z14 z15:D,exS aD K.xj ⟨[z0,z1,z2,I t,I ahead,.bp 0 0,.bp 1 0,.bp 2 0,z8,z9,.nil,I 0,z12,z13,z14,z15],[.box (ae m),.box (dZ e),.box [.t (.sl (b.av.map World.e))]]⟩=
  some (.exit 0,⟨[.und,.und,.und,I t,I ahead,.bp 0 0,.bp 1 0,.bp 2 0,.und,.und,nlT (uN b (t+ahead) (fX b)),I (fX b),.und,.und,.und,.und],[.box (ae m),.box (dZ e),.box [.t (.sl (b.av.map World.e))]]⟩):=by
  intro z0 z1 z2 z8 z9 z12 z13 z14 z15
  refine bk (fun j=>⟨[.und,.und,.und,I t,I ahead,.bp 0 0,.bp 1 0,.bp 2 0,.und,.und,nlT (uN b (t+ahead) j),I j,.und,.und,.und,.und],[.box (ae m),.box (dZ e),.box [.t (.sl (b.av.map World.e))]]⟩) (fX b) rfl ?_ ?_ (by simp)
  · intro j hj
    have po:=po j
    have l2:=l2 j hj
    have o1:=Xc (uN b (t+ahead) (j+1))
    have o0:=Xc (uN b (t+ahead) j)
    generalize nlT (uN b (t+ahead) (j+1))=U1 at*
    generalize nlT (uN b (t+ahead) j)=U0 at*
    generalize nf b j (t+ahead)=P at*
    clear hq lows pu
    generalize hw:nth b.av 0=w at*
    obtain⟨tg,wh⟩:=w
    simp only at pe
    rcases o1 with rfl | ⟨x1,rfl⟩<;>rcases o0 with rfl | ⟨x0,rfl⟩
    all_goals simp(disch:=omega)only[go_sem,K.pY,↓reduceIte,ex,pe,po,l2,reduceAdd,reduceSub]
  · generalize hw:nth b.av 0=w at*
    obtain⟨tg,wh⟩:=w
    simp only at pe
    simp(disch:=omega)only[go_sem,K.pY,↓reduceIte,ex,pe,reduceAdd,reduceSub]
 have ul:=ul (fX b)
 clear l2 po pl pu
 have l3:∀z0 z1 z2 z3 z4 z7 z8 z9 z11 z12 z13:D,exS aD K.xk ⟨[z0,z1,z2,z3,z4,.bp 0 0,.bp 1 0,z7,z8,z9,nlT (uN b (t+ahead) (fX b)),z11,z12,z13,.ref 3 0 0,I 0],[.box (ae m),.box (dZ e),.box [.t (.sl (b.av.map World.e))],.arr 1 false 0 []]⟩=
  some (.exit 4,⟨[.und,.und,.und,.und,.und,.bp 0 0,.bp 1 0,.und,.und,.und,nlT (uN b (t+ahead) (fX b)),.und,.und,.und,.ref 3 0 (((uN b (t+ahead) (fX b)).take (uN b (t+ahead) (fX b)).length).filter fun x=> !aN m e x.toNat).length,I (uN b (t+ahead) (fX b)).length],[.box (ae m),.box (dZ e),.box [.t (.sl (b.av.map World.e))],kF (((uN b (t+ahead) (fX b)).take (uN b (t+ahead) (fX b)).length).filter fun x=> !aN m e x.toNat)]⟩):=by
  intro z0 z1 z2 z3 z4 z7 z8 z9 z11 z12 z13
  refine bk (fun j=>⟨[.und,.und,.und,.und,.und,.bp 0 0,.bp 1 0,.und,.und,.und,nlT (uN b (t+ahead) (fX b)),.und,.und,.und,.ref 3 0 (((uN b (t+ahead) (fX b)).take j).filter fun x=> !aN m e x.toNat).length,I j],[.box (ae m),.box (dZ e),.box [.t (.sl (b.av.map World.e))],kF (((uN b (t+ahead) (fX b)).take j).filter fun x=> !aN m e x.toNat)]⟩) (uN b (t+ahead) (fX b)).length rfl ?_ ?_ (by simp)
  · intro j hj
    have g:=hq (nth (uN b (t+ahead) (fX b)) j) (ai hj)
    rw[List.take_succ,cG hj,List.filter_append]
    have fl:(((uN b (t+ahead) (fX b)).take j).filter fun x=> !aN m e x.toNat).length≤j:=by
     have:=List.length_filter_le (fun x:Int=> !aN m e x.toNat) ((uN b (t+ahead) (fX b)).take j)
     rw[List.length_take]at this;omega
    generalize (((uN b (t+ahead) (fX b)).take j).filter fun x=> !aN m e x.toNat)=L at*
    have fs:(List.filter (fun x:Int=> !aN m e x.toNat) (some (nth (uN b (t+ahead) (fX b)) j)).toList)=if aN m e (nth (uN b (t+ahead) (fX b)) j).toNat=true then []else [nth (uN b (t+ahead) (fX b)) j]:=by
     simp only[Option.toList,List.filter_cons,List.filter_nil]
     cases aN m e (nth (uN b (t+ahead) (fX b)) j).toNat<;>rfl
    rw[fs]
    clear hq lows fs
    generalize uN b (t+ahead) (fX b)=U at*
    rw[Vt (by intro h0;rw[h0]at hj;simp at hj)]
    generalize aN m e (nth U j).toNat=c at*
    generalize hy:nth U j=y at*
    obtain⟨aa,roads⟩:=m
    obtain⟨safe,bad,shut,bj⟩:=e
    simp only[ae,dZ]at*
    cases c
    all_goals simp(disch:=omega)only[go_sem,K.m6,↓reduceIte,g,hy,List.append_nil,Bool.not_true,Bool.not_false,reduceAdd,reduceSub]
    all_goals simp only[kF,List.map_append,List.map_cons,List.map_nil]
  · generalize uN b (t+ahead) (fX b)=U at*
    by_cases h0:U=[]
    · subst h0
      rw[af8]
      simp(disch:=omega)only[go_sem,K.m6,↓reduceIte,List.length_nil,reduceAdd,reduceSub]
    · rw[Vt h0]
      simp(disch:=omega)only[go_sem,K.m6,↓reduceIte,reduceAdd,reduceSub]
 rw[List.take_length]at l3
 have fold:((uN b (t+ahead) (fX b)).filter fun x=> !aN m e x.toNat)=ni m e b (t+ahead):=rfl
 rw[fold]at l3
 clear hq lows fold
 generalize ni m e b (t+ahead)=R at*
 generalize uN b (t+ahead) (fX b)=U at*
 obtain⟨aa,roads⟩:=m
 obtain⟨safe,bad,shut,bj⟩:=e
 obtain⟨ws⟩:=b
 simp only[ae,dZ]at*
 simp(disch:=omega)only[go_sem,K.dC,↓reduceIte,v1,v2,l1,l3,Bool.not_true,reduceAdd,reduceSub]
theorem Dr{m:aB}(hm:m.ok){e:Esc}(he:e.ok m){b:Bel}(hb:qq m b=true)(hs:b.sz)(h3:fX b≤3)(t ahead:Int):
 aD 0 N.dC [.t m.e,.t e.e,.t b.e,I t,I ahead] []=some (if r6 t ahead=true then .tup [.t (tL (ni m e b (t+ahead))),I 0]else .tup [.t (tL []),I 8],[]):=by
 have hT:r6 t ahead=(decide (0≤t∧t≤2147483648)&&decide (0≤ahead∧ahead≤2147483648)):=rfl
 by_cases ht:(0≤t∧t≤2147483648)∧0≤ahead∧ahead≤2147483648
 · rw[hT,decide_eq_true ht.1,decide_eq_true ht.2,if_pos (by simp)]
   exact Sl hm he hb hs h3 t ahead ht.1.1 ht.1.2 ht.2.1 ht.2.2
 refine ao K.o5 rfl ?_
 have v1:=tP hm he
 have v2:=FB hm b hs
 rw[hb]at v2
 rw[hT]
 obtain⟨aa,roads⟩:=m
 obtain⟨safe,bad,shut,bj⟩:=e
 obtain⟨ws⟩:=b
 by_cases c1:t<0
 · rw[decide_eq_false (by omega:¬(0≤t∧t≤2147483648)),Bool.false_and,if_neg (by simp)]
   simp(disch:=omega)only[go_sem,K.dC,↓reduceIte,v1,v2,c1,Bool.not_true,reduceAdd,reduceSub]
   rfl
 by_cases c2:2147483648<t
 · rw[decide_eq_false (by omega:¬(0≤t∧t≤2147483648)),Bool.false_and,if_neg (by simp)]
   simp(disch:=omega)only[go_sem,K.dC,↓reduceIte,v1,v2,c1,c2,Bool.not_true,reduceAdd,reduceSub]
   rfl
 by_cases c3:ahead<0
 · rw[decide_eq_false (by omega:¬(0≤ahead∧ahead≤2147483648)),Bool.and_false,if_neg (by simp)]
   simp(disch:=omega)only[go_sem,K.dC,↓reduceIte,v1,v2,c1,c2,c3,Bool.not_true,reduceAdd,reduceSub]
   rfl
 by_cases c4:2147483648<ahead
 · rw[decide_eq_false (by omega:¬(0≤ahead∧ahead≤2147483648)),Bool.and_false,if_neg (by simp)]
   simp(disch:=omega)only[go_sem,K.dC,↓reduceIte,v1,v2,c1,c2,c3,c4,Bool.not_true,reduceAdd,reduceSub]
   rfl
 exact absurd (by omega) ht
theorem Sm(m:aB):bY m [] []=m:=by
 unfold bY
 simp only[List.length_nil,clN]
structure BkG(m:aB)(l:List Int)(j:Nat):Prop where
 s:lr l (j:Int)=true
 ln:l.length≤j
 c:∀x∈l,(nth m.roads x.toNat).closed=false
theorem BkG.zero(m:aB):BkG m [] 0:=⟨rfl,aLs _,by simp⟩
theorem BkG.skip{m:aB}{l:List Int}{j:Nat}(h:BkG m l j):BkG m l (j+1):=⟨(n9 h.s).1,by have:=h.ln;omega,h.c⟩
theorem BkG.add{m:aB}{l:List Int}{j:Nat}(h:BkG m l j)(hc:(nth m.roads j).closed=false):BkG m (l++[(j:Int)]) (j+1):=by
 refine⟨(n9 h.s).2,by have:=h.ln;simp;omega,fun x hx=>?_⟩
 rcases List.mem_append.1 hx with hx | hx
 · exact h.c x hx
 · rw[List.mem_singleton]at hx
   subst hx
   rw[Int.toNat_natCast]
   exact hc
end Go.Ev
namespace Go.Ev
open Go
variable [Lib] [cu] [bM] [gu] [gk] [i7] [fK] [fI] [iv] [gj] [dq] [cT] [fT] [ff]
end Go.Ev
namespace Go.Ev
open Go
variable [Lib] [cu] [bM] [gu] [gk] [i7] [fK] [fI] [iv] [gj]
end Go.Ev
namespace Go.Ev
open Go
variable [Lib] [cu] [bM] [gu] [gk] [i7] [fK] [fI] [iv] [gj] [dq] [cT] [fT] [ff]
theorem af9{m:aB}(hm:m.ok)(t:Int){w:Wh}(h:w.frm.length≤1000000):(dr m w t).1.frm.length≤1000000:=by
 unfold dr
 cases hp:lu w m.aa.length with
 | false=>simpa using h
 | true=>
   obtain⟨p1,p2,p3⟩:=lU hp
   rw[if_neg (by simp)]
   split
   · exact h
   · rename_i c
     have np:=hm.np
     have:=mb hm t (by unfold inT at p2 ⊢;omega) none (by simp) (l:=w.frm) (by omega) (fun x hx=>nE (p3 x hx))
     simp only;omega
theorem Mw{m:aB}(hm:m.ok){b:Bel}(hs:b.sz)(t:Int):(b7 m b t).1.sz:=by
 unfold b7
 split
 · exact hs
 · split
   · exact hs
   · split
     · exact hs
     · refine⟨by simpa using hs.1,fun x hx=>?_⟩
       obtain⟨y,hy,rfl⟩:=List.mem_map.1 hx
       obtain⟨y1,y2,y3⟩:=hs.2 y hy
       refine⟨y1,by simpa [rnW]using y2,fun w hw=>?_⟩
       simp only[rnW]at hw
       obtain⟨v,hv,rfl⟩:=List.mem_map.1 hw
       exact af9 hm t (y3 v hv)
end Go.Ev
namespace Go.Ev
open Go
variable [Lib] [cu] [bM] [gu] [gk] [i7] [fK] [fI] [iv] [gj] [dq] [cT] [fT] [ff] [jA] [iY] [gC] [eC] [jL]
def ng(l al:List Int):List Int:=l.filter fun x=> !decide (x∈al)
def tS(m:aB)(e:Esc)(b:Bel)(s o al:List Int)(t ahead:Int):aB×List Int×Int:=
 if GL s o=true then(⟨[],[]⟩,[],4)
 else if r6 t ahead=false then(⟨[],[]⟩,[],8)
 else if(b7 (bY m s o) b t).2≠0 then(⟨[],[]⟩,[],(b7 (bY m s o) b t).2)
 else if 0<(ng (ni (bY m s o) e (b7 (bY m s o) b t).1 (t+ahead)) al).length then(m,ng (ni (bY m s o) e (b7 (bY m s o) b t).1 (t+ahead)) al,46)
 else(bY m s o,ni (bY m s o) e (b7 (bY m s o) b t).1 (t+ahead),0)
def acD(r:aB×List Int×Int):D:= .tup [.t r.1.e,.t (tL r.2.1),I r.2.2]
theorem Dt{m:aB}{e:Esc}(h:e.ok m)(s o:List Int):e.ok (bY m s o):=by
 have l:=pt m s o
 have p:(bY m s o).aa=m.aa:=rfl
 exact⟨by rw[p];exact h.s,by rw[p];exact h.b,by rw[l];exact h.h,h.l0,h.l1⟩
theorem IF{t ahead:Int}(h:r6 t ahead=true):0≤t∧t≤2147483648∧0≤ahead∧ahead≤2147483648:=by
 unfold r6 at h
 simp only[aLr,decide_eq_true_eq]at h
 exact⟨h.1.1,h.1.2,h.2.1,h.2.2⟩
theorem N9(al:List Int)(ho:al.length≤1000000)(x:Int):aD 0 N.bQ [I x,.bp 0 0] [.box [.t (tL al)]]=some (B (decide (x∈al)),[.box [.t (tL al)]]):=by
 refine ao K.kx rfl ?_
 have cn:=pI al x (by omega)
 simp(disch:=omega)only[go_sem,K.bQ,↓reduceIte,cn,reduceAdd,reduceSub]
theorem Sn{m:aB}(hm:m.ok){e:Esc}(he:e.ok m){b:Bel}(hb:qq m b=true)(hs:b.sz)(h3:fX b≤3){s o al:List Int}(h4:lr s m.roads.length=true)(h5:lr o m.roads.length=true)(h6:al.length≤1000000)(t ahead:Int):
 aD 0 N.bu [.t m.e,.t e.e,.t b.e,.t (tL s),.t (tL o),.t (tL al),I t,I ahead] []=some (acD (tS m e b s o al t ahead),[]):=by
 refine ao K.lX rfl ?_
 have af:=yf hm h4 h5
 have af0:=yf hm (s:=[]) (o:=[]) rfl rfl
 rw[Sm]at af0
 have ck:=ER hm he hb hs t ahead
 have hn:=Dl hm h4 h5
 have rn:=R0 hn b hs t
 have en:=Dt he s o
 unfold tS
 have hh:(s.any fun x=>decide (x∈o))=GL s o:=rfl
 rw[hh]at af
 have nm:=fun h0:(b7 (bY m s o) b t).2=0=>Mq hn en (EP hn hb h0) (Mw hn hs t) (by rw[r5 h0];exact h3) (t+ahead)
 have nl:=fun h0:(b7 (bY m s o) b t).2=0=>wA (bY m s o) e (b7 (bY m s o) b t).1 (t+ahead) (by rw[r5 h0];exact h3)
 cases hc:GL s o with
 | true=>
   rw[hc,if_pos rfl]at af
   rw[if_pos rfl]
   clear nm nl
   obtain⟨aa,roads⟩:=m
   obtain⟨safe,bad,shut,bj⟩:=e
   obtain⟨ws⟩:=b
   simp only[acD]at*
   simp(disch:=omega)only[go_sem,K.bu,↓reduceIte,af,reduceAdd,reduceSub]
   rfl
 | false=>
   rw[hc,if_neg (by simp)]at af
   rw[if_neg (by simp)]
   cases hT:r6 t ahead with
   | false=>
     rw[hT,if_neg (by simp)]at ck
     rw[if_pos rfl]
     clear nm nl
     generalize bY m s o=A at*
     obtain⟨ap,ar⟩:=A
     obtain⟨aa,roads⟩:=m
     obtain⟨safe,bad,shut,bj⟩:=e
     obtain⟨ws⟩:=b
     simp only[acD]at*
     simp(disch:=omega)only[go_sem,K.bu,↓reduceIte,af,ck,reduceAdd,reduceSub]
     rfl
   | true=>
     rw[hT,if_pos rfl]at ck
     rw[if_neg (by simp)]
     have tt:=IF hT
     by_cases h0:(b7 (bY m s o) b t).2=0
     · have nm2:=nm h0
       have nl2:=nl h0
       clear nm nl
       rw[if_neg (by simpa using h0)]
       generalize hA:ni (bY m s o) e (b7 (bY m s o) b t).1 (t+ahead)=L at*
       have c1:=y9 L (by omega)
       obtain⟨ep,dl⟩:=Vk N.bQ (fun x=>decide (x∈al)) (tL al) L (fun x _=>N9 al h6 x) (by omega) 0
       have rl:(L.filter fun x=> !decide (x∈al))=ng L al:=rfl
       rw[rl]at dl
       generalize bY m s o=A at*
       generalize b7 A b t=r at*
       obtain⟨⟨w2⟩,rc⟩:=r
       simp only at h0
       subst h0
       obtain⟨ap,ar⟩:=A
       obtain⟨aa,roads⟩:=m
       obtain⟨safe,bad,shut,bj⟩:=e
       obtain⟨ws⟩:=b
       simp only[acD]at*
       by_cases hr:0<(ng L al).length
       · rw[if_pos hr]
         generalize ng L al=R at*
         simp only[tL,List.map_nil]at*
         have hz:GL [] []=false:=rfl
         rw[if_neg (by simp)]at af0
         simp(disch:=omega)only[go_sem,K.bu,↓reduceIte,af,ck,rn,nm2,c1,dl,hr,af0,reduceAdd,reduceSub]
       · rw[if_neg hr]
         generalize ng L al=R at*
         simp(disch:=omega)only[go_sem,K.bu,↓reduceIte,af,ck,rn,nm2,c1,dl,hr,reduceAdd,reduceSub]
     · rw[if_pos h0]
       clear nm nl
       generalize bY m s o=A at*
       generalize b7 A b t=r at*
       obtain⟨⟨w2⟩,rc⟩:=r
       obtain⟨ap,ar⟩:=A
       obtain⟨aa,roads⟩:=m
       obtain⟨safe,bad,shut,bj⟩:=e
       obtain⟨ws⟩:=b
       simp only[acD]at*
       simp(disch:=omega)only[go_sem,K.bu,↓reduceIte,af,ck,rn,h0,reduceAdd,reduceSub]
       rfl
theorem Vu(m:aB)(hp:m.aa.length≤1000000)(hr:m.roads.length≤1000000):aD 0 N.ie [.t m.e] []=some (.t m.e,[]):=by
 refine ao K.qs rfl ?_
 obtain⟨aa,roads⟩:=m
 simp only at*
 simp(disch:=omega)only[go_sem,K.ie,↓reduceIte,reduceAdd,reduceSub]
theorem Oa(m:aB)(e:Esc)(b:Bel)(n:aB)(al L:List Int)(ha:al.length≤1000000)(hl:L.length≤1000000)(z0 z1 z2 z3 z4 z6 z7 z9 z10 z12 z13 z15:D)(a0 a1 a2 a3 a4 a5 a6 a7 a8:T):
 exS aD K.pZ ⟨[z0,z1,z2,z3,z4,.t (tL al),z6,z7,.bp 0 0,z9,z10,.bp 3 0,z12,z13,.bp 4 0,z15,.t (tL L),.ref 5 0 0,I 0],[.box [.t a0,.t a1],.box [.t a2,.t a3,.t a4,.t a5],.box [.t a6],.box [.nil,.nil],.box [.t a7,.t a8],.arr 1 false 0 []]⟩=
  some (.exit 0,⟨[.und,.und,.und,.und,.und,.t (tL al),.und,.und,.bp 0 0,.und,.und,.bp 3 0,.und,.und,.bp 4 0,.und,.t (tL L),.ref 5 0 (ng L al).length,I L.length],[.box [.t a0,.t a1],.box [.t a2,.t a3,.t a4,.t a5],.box [.t a6],.box [.nil,.nil],.box [.t a7,.t a8],kF (ng L al)]⟩):=by
 have l1:exS aD K.pZ ⟨[z0,z1,z2,z3,z4,.t (tL al),z6,z7,.bp 0 0,z9,z10,.bp 3 0,z12,z13,.bp 4 0,z15,.t (tL L),.ref 5 0 0,I 0],[.box [.t a0,.t a1],.box [.t a2,.t a3,.t a4,.t a5],.box [.t a6],.box [.nil,.nil],.box [.t a7,.t a8],.arr 1 false 0 []]⟩=
  some (.exit 0,⟨[.und,.und,.und,.und,.und,.t (tL al),.und,.und,.bp 0 0,.und,.und,.bp 3 0,.und,.und,.bp 4 0,.und,.t (tL L),.ref 5 0 (ng (L.take L.length) al).length,I L.length],[.box [.t a0,.t a1],.box [.t a2,.t a3,.t a4,.t a5],.box [.t a6],.box [.nil,.nil],.box [.t a7,.t a8],kF (ng (L.take L.length) al)]⟩):=by
  refine bk (fun j=>⟨[.und,.und,.und,.und,.und,.t (tL al),.und,.und,.bp 0 0,.und,.und,.bp 3 0,.und,.und,.bp 4 0,.und,.t (tL L),.ref 5 0 (ng (L.take j) al).length,I j],[.box [.t a0,.t a1],.box [.t a2,.t a3,.t a4,.t a5],.box [.t a6],.box [.nil,.nil],.box [.t a7,.t a8],kF (ng (L.take j) al)]⟩) L.length rfl ?_ ?_ (by simp)
  · intro j hj
    have g:=mI al (nth L j) (by omega)
    have fl:(ng (L.take j) al).length≤j:=by
     have:=List.length_filter_le (fun x:Int=> !decide (x∈al)) (L.take j)
     rw[List.length_take]at this;unfold ng;omega
    have fs:ng (L.take (j+1)) al=ng (L.take j) al++if decide (nth L j∈al)=true then []else [nth L j]:=by
     unfold ng
     rw[List.take_succ,cG hj,List.filter_append]
     congr 1
     simp only[Option.toList,List.filter_cons,List.filter_nil]
     cases decide (nth L j∈al)<;>rfl
    rw[fs]
    clear fs
    generalize ng (L.take j) al=Q at*
    generalize decide (nth L j∈al)=c at*
    generalize hy:nth L j=y at*
    cases c
    all_goals simp(disch:=omega)only[go_sem,K.oF,↓reduceIte,g,hy,List.append_nil,Bool.not_true,Bool.not_false,reduceAdd,reduceSub]
    all_goals simp only[kF,List.map_append,List.map_cons,List.map_nil]
  · simp(disch:=omega)only[go_sem,K.oF,↓reduceIte,reduceAdd,reduceSub]
 rw[List.take_length]at l1
 exact l1
theorem Ob{m:aB}(hm:m.ok){e:Esc}(he:e.ok m){b:Bel}(hb:qq m b=true)(hs:b.sz)(h3:fX b≤3){s o al:List Int}(h4:lr s m.roads.length=true)(h5:lr o m.roads.length=true)(h6:al.length≤1000000)(t ahead:Int):
 aD 0 N.dV [.t m.e,.t e.e,.t b.e,.t (tL s),.t (tL o),.t (tL al),I t,I ahead] []=some (acD (tS m e b s o al t ahead),[]):=by
 refine ao K.rk rfl ?_
 have af:=IC hm h4 h5
 have np:=hm.np
 have nr:=hm.nr
 have cp:=Vu m (by omega) (by omega)
 have ck:=Dr hm he hb hs h3 t ahead
 have hn:=Dl hm h4 h5
 have rn:=R6 hn b hs t
 have en:=Dt he s o
 unfold tS
 have nm:=fun h0:(b7 (bY m s o) b t).2=0=>Dr hn en (EP hn hb h0) (Mw hn hs t) (by rw[r5 h0];exact h3) t ahead
 have nl:=fun h0:(b7 (bY m s o) b t).2=0=>wA (bY m s o) e (b7 (bY m s o) b t).1 (t+ahead) (by rw[r5 h0];exact h3)
 cases hc:GL s o with
 | true=>
   rw[hc,if_pos rfl]at af
   rw[if_pos rfl]
   clear nm nl
   obtain⟨aa,roads⟩:=m
   obtain⟨safe,bad,shut,bj⟩:=e
   obtain⟨ws⟩:=b
   simp only[acD]at*
   simp(disch:=omega)only[go_sem,K.dV,↓reduceIte,af,reduceAdd,reduceSub]
   rfl
 | false=>
   rw[hc,if_neg (by simp)]at af
   rw[if_neg (by simp)]
   cases hT:r6 t ahead with
   | false=>
     rw[hT,if_neg (by simp)]at ck
     rw[if_pos rfl]
     clear nm nl
     generalize bY m s o=A at*
     obtain⟨ap,ar⟩:=A
     obtain⟨aa,roads⟩:=m
     obtain⟨safe,bad,shut,bj⟩:=e
     obtain⟨ws⟩:=b
     simp only[acD]at*
     simp(disch:=omega)only[go_sem,K.dV,↓reduceIte,af,ck,reduceAdd,reduceSub]
     rfl
   | true=>
     rw[hT,if_pos rfl]at ck
     rw[if_neg (by simp)]
     have tt:=IF hT
     by_cases h0:(b7 (bY m s o) b t).2=0
     · have nm2:=nm h0
       have nl2:=nl h0
       clear nm nl
       rw[hT,if_pos rfl]at nm2
       rw[if_neg (by simpa using h0)]
       generalize hA:ni (bY m s o) e (b7 (bY m s o) b t).1 (t+ahead)=L at*
       generalize ni m e b (t+ahead)=L0 at*
       have lp:=Oa m e b (bY m s o) al L h6 (by omega)
       generalize bY m s o=A at*
       generalize b7 A b t=r at*
       obtain⟨⟨w2⟩,rc⟩:=r
       simp only at h0
       subst h0
       obtain⟨ap,ar⟩:=A
       obtain⟨aa,roads⟩:=m
       obtain⟨safe,bad,shut,bj⟩:=e
       obtain⟨ws⟩:=b
       simp only[acD]at*
       by_cases hr:0<(ng L al).length
       · rw[if_pos hr]
         generalize ng L al=R at*
         simp(disch:=omega)only[go_sem,K.dV,↓reduceIte,af,ck,rn,nm2,lp,hr,cp,reduceAdd,reduceSub]
       · rw[if_neg hr]
         generalize ng L al=R at*
         simp(disch:=omega)only[go_sem,K.dV,↓reduceIte,af,ck,rn,nm2,lp,hr,reduceAdd,reduceSub]
     · rw[if_pos h0]
       clear nm nl
       generalize bY m s o=A at*
       generalize b7 A b t=r at*
       generalize ni m e b (t+ahead)=L0 at*
       obtain⟨⟨w2⟩,rc⟩:=r
       obtain⟨ap,ar⟩:=A
       obtain⟨aa,roads⟩:=m
       obtain⟨safe,bad,shut,bj⟩:=e
       obtain⟨ws⟩:=b
       simp only[acD]at*
       simp(disch:=omega)only[go_sem,K.dV,↓reduceIte,af,ck,rn,h0,reduceAdd,reduceSub]
       rfl
theorem Sp{m n:aB}(hm:m.ok)(hn:n.ok){e:Esc}(h1:e.ok m)(h2:e.ok n)(hl:n.aa.length=m.aa.length):
 aD 0 N.gQ [.t m.e,.t n.e,.t e.e] []=some (.t (tL (b9 m.aa.length fun p=>aN m e p&& !aN n e p)),[]):=by
 refine ao K.o6 rfl ?_
 have v1:=tP hm h1
 have v2:=tP hn h2
 have np:=hm.np
 have l1:∀z0 z1 z2 z6:D,exS aD K.q9 ⟨[z0,z1,z2,.bp 0 0,.bp 1 0,.bp 2 0,z6,.ref 3 0 0,I 0],[.box (ae m),.box (ae n),.box (dZ e),.arr 1 false 0 []]⟩=
  some (.exit 0,⟨[.und,.und,.und,.bp 0 0,.bp 1 0,.bp 2 0,.und,.ref 3 0 (b9 m.aa.length fun p=>aN m e p&& !aN n e p).length,I m.aa.length],[.box (ae m),.box (ae n),.box (dZ e),kF (b9 m.aa.length fun p=>aN m e p&& !aN n e p)]⟩):=by
  intro z0 z1 z2 z6
  refine bk (fun j=>⟨[.und,.und,.und,.bp 0 0,.bp 1 0,.bp 2 0,.und,.ref 3 0 (b9 j fun p=>aN m e p&& !aN n e p).length,I j],[.box (ae m),.box (ae n),.box (dZ e),kF (b9 j fun p=>aN m e p&& !aN n e p)]⟩) m.aa.length rfl ?_ ?_ (by simp)
  · intro j hj
    have e1:=wz hm h1 (p:=j) hj
    have e2:=wz hn h2 (p:=j) (by omega)
    have wl:=iJ j (fun p=>aN m e p&& !aN n e p)
    rw[lT]
    generalize b9 j (fun p=>aN m e p&& !aN n e p)=W at*
    generalize aN m e j=a at*
    generalize aN n e j=b at*
    obtain⟨aa,roads⟩:=m
    obtain⟨pl2,rd2⟩:=n
    obtain⟨safe,bad,shut,bj⟩:=e
    simp only[ae,dZ]at*
    cases a<;>cases b
    all_goals simp(disch:=omega)only[go_sem,K.ky,↓reduceIte,e1,e2,Bool.not_true,Bool.not_false,Bool.and_false,Bool.and_true,Bool.false_and,Bool.true_and,Bool.and_self,aLt,reduceAdd,reduceSub]
    all_goals simp only[kF,List.map_append,List.map_cons,List.map_nil]
  · have wl:=iJ m.aa.length (fun p=>aN m e p&& !aN n e p)
    generalize b9 m.aa.length (fun p=>aN m e p&& !aN n e p)=W at*
    obtain⟨aa,roads⟩:=m
    obtain⟨pl2,rd2⟩:=n
    obtain⟨safe,bad,shut,bj⟩:=e
    simp only[ae,dZ]at*
    simp(disch:=omega)only[go_sem,K.ky,↓reduceIte,reduceAdd,reduceSub]
 generalize b9 m.aa.length (fun p=>aN m e p&& !aN n e p)=W at*
 obtain⟨aa,roads⟩:=m
 obtain⟨pl2,rd2⟩:=n
 obtain⟨safe,bad,shut,bj⟩:=e
 simp only[ae,dZ]at*
 simp(disch:=omega)only[go_sem,K.gQ,↓reduceIte,v1,v2,l1,Bool.not_true,reduceAdd,reduceSub]
abbrev m0:aB:=⟨[],[]⟩
abbrev e00:T:= .agg [.sl [],.sl []]
theorem aga:m0.ok:=⟨by simp[m0],by simp[m0],by simp[m0],by simp[m0]⟩
def e0B(e:Esc):Bool:=lr e.safe 0&&lr e.bad 0&&lr e.shut 0
theorem ES{m:aB}(hm:m.ok){e:Esc}(he:e.ok m):aD 0 N.fU [.t e00,.t e.e] []=some (B (e0B e),[]):=by
 refine ao K.qw rfl ?_
 have hv:aD 0 N.dW [.t e00] []=some (B true,[]):=iQ aga
 have r1:=mN e.safe 0 (0-1) (by have:=he.sl hm;omega)
 have r2:=mN e.bad 0 (0-1) (by have:=he.bl hm;omega)
 have r3:=mN e.shut 0 (0-1) (by have:=he.hl hm;omega)
 rw[xU]at r1 r2 r3
 have r4:=Bq e.bj 0 2147483648
 have:=he.l0
 have:=he.l1
 rw[decide_eq_true (by omega)]at r4
 unfold e0B
 generalize lr e.safe 0=c1 at*
 generalize lr e.bad 0=c2 at*
 generalize lr e.shut 0=c3 at*
 obtain⟨safe,bad,shut,bj⟩:=e
 simp only[m0,List.map_nil]at*
 cases c1<;>cases c2<;>cases c3
 all_goals simp(disch:=omega)only[go_sem,K.fU,↓reduceIte,hv,r1,r2,r3,r4,Bool.and_true,Bool.and_false,Bool.false_and,Bool.and_self,List.map_nil,List.length_nil,reduceAdd,reduceSub]
theorem Oc{m:aB}(hm:m.ok){e:Esc}(he:e.ok m)(p:Nat):aD 0 N.iK [.t e00,.t e.e,I p] []=some (B false,[]):=by
 refine ao K.qy rfl ?_
 have hv:=ES hm he
 have r4:=Bq p 0 (0-1)
 rw[decide_eq_false (by omega)]at r4
 generalize e0B e=c at*
 obtain⟨safe,bad,shut,bj⟩:=e
 cases c
 all_goals simp(disch:=omega)only[go_sem,K.iK,↓reduceIte,hv,r4,List.map_nil,List.length_nil,reduceAdd,reduceSub]
theorem Vv{m:aB}(hm:m.ok){e:Esc}(he:e.ok m)(p:Nat):aD 0 N.ja [.t e00,.t e.e,I p] []=some (.tup [.t (tL []),.t (tL []),.t (.agg [tI 0,tI 0]),B false],[]):=by
 refine ao K.we rfl ?_
 have hv:=Oc hm he p
 obtain⟨safe,bad,shut,bj⟩:=e
 simp(disch:=omega)only[go_sem,K.ja,↓reduceIte,hv,List.map_nil,List.length_nil,Bool.not_false,reduceAdd,reduceSub]
 rfl
theorem Ky{m:aB}(hm:m.ok){e:Esc}(he:e.ok m)(p:Nat):aD 0 N.cX [.t e00,.t e.e,I p] []=some (B false,[]):=by
 refine ao K.oZ rfl ?_
 have hv:=Vv hm he p
 obtain⟨safe,bad,shut,bj⟩:=e
 simp(disch:=omega)only[go_sem,K.cX,↓reduceIte,hv,List.map_nil,List.length_nil,Bool.not_false,reduceAdd,reduceSub]
theorem ET{m:aB}(hm:m.ok){e:Esc}(he:e.ok m):aD 0 N.dR [.t e00,.t e.e] []=some (B (e0B e),[]):=by
 refine ao K.o7 rfl ?_
 have hv:aD 0 N.cW [.t e00] []=some (I 0,[]):=nO aga
 have r1:=yX e.safe 0 (by have:=he.sl hm;omega)
 have r2:=yX e.bad 0 (by have:=he.bl hm;omega)
 have r3:=yX e.shut 0 (by have:=he.hl hm;omega)
 have:=he.l0
 have:=he.l1
 unfold e0B
 generalize lr e.safe 0=c1 at*
 generalize lr e.bad 0=c2 at*
 generalize lr e.shut 0=c3 at*
 obtain⟨safe,bad,shut,bj⟩:=e
 simp only[m0,List.map_nil]at*
 cases c1<;>cases c2<;>cases c3
 all_goals simp(disch:=omega)only[go_sem,K.dR,↓reduceIte,hv,r1,r2,r3,Bool.and_true,Bool.and_false,Bool.false_and,Bool.and_self,List.map_nil,List.length_nil,reduceAdd,reduceSub]
theorem Sq{m:aB}(hm:m.ok){e:Esc}(he:e.ok m)(p:Nat):aD 0 N.fk [.t e00,.t e.e,I p] []=some (.tup [.t (tL []),I 0,B false],[]):=by
 refine ao K.qx rfl ?_
 have hv:=ET hm he
 generalize e0B e=c at*
 obtain⟨safe,bad,shut,bj⟩:=e
 cases c
 all_goals simp(disch:=omega)only[go_sem,K.fk,↓reduceIte,hv,List.map_nil,List.length_nil,Bool.not_false,Bool.not_true,reduceAdd,reduceSub]
 all_goals rfl
theorem Vw{m:aB}(hm:m.ok){e:Esc}(he:e.ok m)(p:Nat):aD 0 N.iy [.t e00,.t e.e,I p] []=some (.tup [.t (tL []),.t (tL []),B false],[]):=by
 refine ao K.tF rfl ?_
 have hv:=Sq hm he p
 obtain⟨safe,bad,shut,bj⟩:=e
 simp(disch:=omega)only[go_sem,K.iy,↓reduceIte,hv,List.map_nil,List.length_nil,Bool.not_false,reduceAdd,reduceSub]
 rfl
theorem Kz{m:aB}(hm:m.ok){e:Esc}(he:e.ok m)(p:Nat):aD 0 N.bT [.t e00,.t e.e,I p] []=some (B false,[]):=by
 refine ao K.nS rfl ?_
 have hv:=Vw hm he p
 obtain⟨safe,bad,shut,bj⟩:=e
 simp(disch:=omega)only[go_sem,K.bT,↓reduceIte,hv,List.map_nil,List.length_nil,Bool.not_false,reduceAdd,reduceSub]
def Du(m:aB)(e:Esc):List Int:=if e0B e=true then b9 m.aa.length (aN m e)else []
theorem Sr{m:aB}(hm:m.ok){e:Esc}(he:e.ok m)(p:Nat)(hp:p<m.aa.length):
 aD 0 N.bg [I p,.bp 0 0,.bp 1 0,.bp 2 0] [.box (ae m),.box (dZ e),.box (ae m0)]=some (B (aN m e p),[.box (ae m),.box (dZ e),.box (ae m0)]):=by
 refine ao K.jb rfl ?_
 have e1:=wm hm he p hp
 have e2:=Ky hm he p
 generalize aN m e p=a at*
 obtain⟨aa,roads⟩:=m
 obtain⟨safe,bad,shut,bj⟩:=e
 simp only[ae,dZ,m0,List.map_nil]at*
 cases a
 all_goals simp(disch:=omega)only[go_sem,K.bg,↓reduceIte,e1,e2,Bool.not_true,Bool.not_false,Bool.and_false,Bool.and_true,Bool.false_and,Bool.true_and,reduceAdd,reduceSub]
theorem Od{m:aB}(hm:m.ok){e:Esc}(he:e.ok m):aD 0 N.cg [.t m.e,.t e00,.t e.e] []=some (.t (tL (Du m e)),[]):=by
 refine ao K.kj rfl ?_
 have np:=hm.np
 have v1:=oa hm he
 have v2:=ES hm he
 have wh:=Fs m.aa.length (by omega) N.bg [[.sl (m.aa.map Place.e),.sl (m.roads.map Road.e)],[tL e.safe,tL e.bad,tL e.shut,tI e.bj],[.sl [],.sl []]] (fun p=>aN m e p) (fun k hk=>Sr hm he k hk)
 have wh:aD 0 N.eU [I m.aa.length,.fn N.bg [.bp 0 0,.bp 1 0,.bp 2 0]] [.box (ae m),.box (dZ e),.box [.t (.sl []),.t (.sl [])]]=some (.t (tL (b9 m.aa.length fun p=>aN m e p)),[.box (ae m),.box (dZ e),.box [.t (.sl []),.t (.sl [])]]):=wh
 have eq:(b9 m.aa.length fun p=>aN m e p)=b9 m.aa.length (aN m e):=rfl
 rw[eq]at wh
 unfold Du
 generalize b9 m.aa.length (aN m e)=r at*
 generalize e0B e=c at*
 obtain⟨aa,roads⟩:=m
 obtain⟨safe,bad,shut,bj⟩:=e
 simp only[ae,dZ,m0,List.map_nil]at*
 cases c
 all_goals simp(disch:=omega)only[go_sem,K.cg,↓reduceIte,v1,v2,wh,Bool.not_true,Bool.not_false,reduceAdd,reduceSub]
 all_goals rfl
theorem Oe{m:aB}(hm:m.ok){e:Esc}(he:e.ok m):aD 0 N.gQ [.t m.e,.t e00,.t e.e] []=some (.t (tL (Du m e)),[]):=by
 refine ao K.o6 rfl ?_
 have v1:=tP hm he
 have v2:=ET hm he
 have np:=hm.np
 have l1:∀z0 z1 z2 z6:D,exS aD K.q9 ⟨[z0,z1,z2,.bp 0 0,.bp 1 0,.bp 2 0,z6,.ref 3 0 0,I 0],[.box (ae m),.box (ae m0),.box (dZ e),.arr 1 false 0 []]⟩=
  some (.exit 0,⟨[.und,.und,.und,.bp 0 0,.bp 1 0,.bp 2 0,.und,.ref 3 0 (b9 m.aa.length (aN m e)).length,I m.aa.length],[.box (ae m),.box (ae m0),.box (dZ e),kF (b9 m.aa.length (aN m e))]⟩):=by
  intro z0 z1 z2 z6
  refine bk (fun j=>⟨[.und,.und,.und,.bp 0 0,.bp 1 0,.bp 2 0,.und,.ref 3 0 (b9 j (aN m e)).length,I j],[.box (ae m),.box (ae m0),.box (dZ e),kF (b9 j (aN m e))]⟩) m.aa.length rfl ?_ ?_ (by simp)
  · intro j hj
    have e1:=wz hm he (p:=j) hj
    have e2:=Kz hm he j
    have wl:=iJ j (aN m e)
    rw[lT]
    generalize b9 j (aN m e)=W at*
    generalize aN m e j=a at*
    obtain⟨aa,roads⟩:=m
    obtain⟨safe,bad,shut,bj⟩:=e
    simp only[ae,dZ,m0,List.map_nil]at*
    cases a
    all_goals simp(disch:=omega)only[go_sem,K.ky,↓reduceIte,e1,e2,Bool.not_true,Bool.not_false,Bool.and_false,Bool.and_true,Bool.false_and,Bool.true_and,Bool.and_self,aLt,reduceAdd,reduceSub]
    all_goals simp only[kF,List.map_append,List.map_cons,List.map_nil]
  · have wl:=iJ m.aa.length (aN m e)
    generalize b9 m.aa.length (aN m e)=W at*
    obtain⟨aa,roads⟩:=m
    obtain⟨safe,bad,shut,bj⟩:=e
    simp only[ae,dZ,m0,List.map_nil]at*
    simp(disch:=omega)only[go_sem,K.ky,↓reduceIte,reduceAdd,reduceSub]
 unfold Du
 generalize b9 m.aa.length (aN m e)=W at*
 generalize e0B e=c at*
 obtain⟨aa,roads⟩:=m
 obtain⟨safe,bad,shut,bj⟩:=e
 simp only[ae,dZ,m0,List.map_nil]at*
 cases c
 all_goals simp(disch:=omega)only[go_sem,K.gQ,↓reduceIte,v1,v2,l1,Bool.not_true,Bool.not_false,reduceAdd,reduceSub]
 all_goals rfl
theorem Of{m:aB}(hm:m.ok){e:Esc}{b:Bel}(h3:fX b≤3)(s o al:List Int)(t ahead:Int):
 (tS m e b s o al t ahead).1.aa.length≤64∧(tS m e b s o al t ahead).1.roads.length≤128∧(tS m e b s o al t ahead).2.1.length≤192:=by
 have np:=hm.np
 have nr:=hm.nr
 have al1:=pt m s o
 have pl:(bY m s o).aa=m.aa:=rfl
 unfold tS
 split
 · simp
 · split
   · simp
   · split
     · simp
     · rename_i h0
       have h0:(b7 (bY m s o) b t).2=0:=Classical.not_not.1 h0
       have nl:=wA (bY m s o) e (b7 (bY m s o) b t).1 (t+ahead) (by rw[r5 h0];exact h3)
       split
       · refine⟨np,nr,?_⟩
         unfold ng
         exact Nat.le_trans (List.length_filter_le _ _) nl
       · exact⟨by rw[pl];exact np,by rw[al1];exact nr,nl⟩
theorem EU{m:aB}(hm:m.ok){e:Esc}(he:e.ok m){b:Bel}(hb:qq m b=true)(hs:b.sz)(h3:fX b≤3){s o al:List Int}(h4:lr s m.roads.length=true)(h5:lr o m.roads.length=true)(h6:al.length≤1000000)(t ahead:Int):
 aD 0 N.gP [.t m.e,.t e.e,.t b.e,.t (tL s),.t (tL o),.t (tL al),I t,I ahead] []=some (B true,[]):=by
 refine ao K.tE rfl ?_
 have a1:=yf hm h4 h5
 have hh:(s.any fun x=>decide (x∈o))=GL s o:=rfl
 rw[hh]at a1
 have a2:=IC hm h4 h5
 have n1:=Vr hm he hb hs h3 t ahead
 have n2:=Dr hm he hb hs h3 t ahead
 have nl:=wA m e b (t+ahead) h3
 have c1:=Sn hm he hb hs h3 h4 h5 h6 t ahead
 have c2:=Ob hm he hb hs h3 h4 h5 h6 t ahead
 obtain⟨z1,z2,z3⟩:=Of hm (e:=e) h3 s o al t ahead
 unfold acD at c1 c2
 generalize tS m e b s o al t ahead=r at*
 obtain⟨rm,rl,rc⟩:=r
 simp only at z1 z2 z3
 have s1:=F5 rm (by omega) (by omega)
 have s2:=xM rl rl (by omega)
 simp only[decide_true]at s2
 have nn:∃(L:List Int) (c:Int),L.length≤192∧(if r6 t ahead=true then D.tup [.t (tL (ni m e b (t+ahead))),I 0]else .tup [.t (tL []),I 8])= .tup [.t (tL L),I c]:=by
  split
  · exact⟨_,_,nl,rfl⟩
  · exact⟨[],8,by simp,rfl⟩
 obtain⟨L,c,l1,l2⟩:=nn
 rw[l2]at n1 n2
 have s3:=xM L L (by omega)
 simp only[decide_true]at s3
 clear l2 nl
 cases hc:GL s o with
 | true=>
   rw[hc,if_pos rfl]at a1 a2
   have a1:aD 0 N.bD [.t m.e,.t (tL s),.t (tL o)] []=some (.tup [.t e00,I 4],[]):=a1
   have a2:aD 0 N.fV [.t m.e,.t (tL s),.t (tL o)] []=some (.tup [.t e00,I 4],[]):=a2
   have s4:aD 0 N.dG [.t e00,.t e00] []=some (B true,[]):=F5 m0 (by simp[m0]) (by simp[m0])
   have w1:=Od hm he
   have w2:=Oe hm he
   have wl:(Du m e).length≤64:=by
    have np:=hm.np
    unfold Du
    split
    · have:=iJ m.aa.length (aN m e);omega
    · simp
   generalize Du m e=W at*
   have s5:=xM W W (by omega)
   simp only[decide_true]at s5
   obtain⟨rp,rr⟩:=rm
   obtain⟨aa,roads⟩:=m
   obtain⟨safe,bad,shut,bj⟩:=e
   obtain⟨ws⟩:=b
   simp only[m0,List.map_nil]at*
   simp(disch:=omega)only[go_sem,K.gP,↓reduceIte,a1,a2,n1,n2,c1,c2,s1,s2,s3,s4,w1,w2,s5,List.map_nil,decide_true,Bool.and_self,reduceAdd,reduceSub]
 | false=>
   rw[hc,if_neg (by simp)]at a1 a2
   have aok:=Dl hm h4 h5
   have aes:=Dt he s o
   have apl:(bY m s o).aa.length=m.aa.length:=rfl
   have s4:=F5 (bY m s o) (by have:=aok.np;omega) (by have:=aok.nr;omega)
   have w1:=Vd hm aok he aes apl
   have w2:=Sp hm aok he aes apl
   have wl:=iJ m.aa.length (fun p=>aN m e p&& !aN (bY m s o) e p)
   generalize b9 m.aa.length (fun p=>aN m e p&& !aN (bY m s o) e p)=W at*
   have np:=hm.np
   have s5:=xM W W (by omega)
   simp only[decide_true]at s5
   generalize bY m s o=A at*
   obtain⟨ap,ar⟩:=A
   obtain⟨rp,rr⟩:=rm
   obtain⟨aa,roads⟩:=m
   obtain⟨safe,bad,shut,bj⟩:=e
   obtain⟨ws⟩:=b
   simp(disch:=omega)only[go_sem,K.gP,↓reduceIte,a1,a2,n1,n2,c1,c2,s1,s2,s3,s4,w1,w2,s5,decide_true,Bool.and_self,reduceAdd,reduceSub]
theorem Ss{d0:aG}(hd:d0.dQ){m:aB}(hm:m.ok)(e:Esc)(b:Bel)(z0 z1 z9 z10:D):
 ∃(d:aG) (s o:List Int),d.dQ∧(lr s m.roads.length=true∧lr o m.roads.length=true)∧exS aD K.jG ⟨[z0,z1,.bp 0 0,.bp 1 0,.bp 2 0,.bp 3 0,.ref 4 0 0,.ref 5 0 0,I 0,z9,z10],[d0.obj,.box (ae m),.box [.t (.sl (b.av.map World.e))],.box (dZ e),(.arr 1 false 0 []),(.arr 1 false 0 [])]⟩=
  some (.exit 0,⟨[.und,.und,.bp 0 0,.bp 1 0,.bp 2 0,.bp 3 0,.ref 4 0 s.length,.ref 5 0 o.length,I m.roads.length,.und,.und],[d.obj,.box (ae m),.box [.t (.sl (b.av.map World.e))],.box (dZ e),kF s,kF o]⟩):=by
 have nr:=hm.nr
 have key:=zf (vs:=[z0,z1,.bp 0 0,.bp 1 0,.bp 2 0,.bp 3 0,.ref 4 0 0,.ref 5 0 0,I 0,z9,z10]) (H:=[d0.obj,.box (ae m),.box [.t (.sl (b.av.map World.e))],.box (dZ e),kF [],kF []]) (c:=K.dw) (gc:=true) (dead:=[0,1,9,10])
  (fun j st=>∃(d:aG) (s o:List Int),d.dQ∧(lr s (j:Int)=true∧lr o (j:Int)=true)∧st=⟨[.und,.und,.bp 0 0,.bp 1 0,.bp 2 0,.bp 3 0,.ref 4 0 s.length,.ref 5 0 o.length,I j,.und,.und],[d.obj,.box (ae m),.box [.t (.sl (b.av.map World.e))],.box (dZ e),kF s,kF o]⟩)
  m.roads.length (fun q=>∃(d:aG) (s o:List Int),d.dQ∧(lr s m.roads.length=true∧lr o m.roads.length=true)∧q=(.exit 0,⟨[.und,.und,.bp 0 0,.bp 1 0,.bp 2 0,.bp 3 0,.ref 4 0 s.length,.ref 5 0 o.length,I m.roads.length,.und,.und],[d.obj,.box (ae m),.box [.t (.sl (b.av.map World.e))],.box (dZ e),kF s,kF o]⟩))
  ⟨d0,[],[],hd,⟨rfl,rfl⟩,by simp only[go_sem,List.length_nil]⟩ ?_ ?_
 · obtain⟨q,h1,d,s,o,hl,hg,h2⟩:=key
   refine⟨d,s,o,hl,hg,?_⟩
   rw[← h2]
   exact h1
 · rintro j st hj ⟨d,s,o,hl,⟨hs,ho⟩,rfl⟩
   have sl:=i9 hs
   have ol:=i9 ho
   obtain⟨v,d2,c,l2,v0,v1⟩:=QG hl 6 (by omega) (by omega)
   by_cases c0:v=0
   · subst c0
     refine⟨_,?_,d2,s++[(j:Int)],o,l2,⟨(n9 hs).2,(n9 ho).1⟩,rfl⟩
     obtain⟨aa,roads⟩:=m
     obtain⟨safe,bad,shut,bj⟩:=e
     simp only[ae,dZ]at*
     simp(disch:=omega)only[go_sem,K.dw,↓reduceIte,c,reduceAdd,reduceSub]
     simp only[kF,List.map_append,List.map_cons,List.map_nil]
   · by_cases c1:v=1
     · subst c1
       refine⟨_,?_,d2,s,o++[(j:Int)],l2,⟨(n9 hs).1,(n9 ho).2⟩,rfl⟩
       obtain⟨aa,roads⟩:=m
       obtain⟨safe,bad,shut,bj⟩:=e
       simp only[ae,dZ]at*
       simp(disch:=omega)only[go_sem,K.dw,↓reduceIte,c,reduceAdd,reduceSub]
       simp only[kF,List.map_append,List.map_cons,List.map_nil]
     · refine⟨_,?_,d2,s,o,l2,⟨(n9 hs).1,(n9 ho).1⟩,rfl⟩
       obtain⟨aa,roads⟩:=m
       obtain⟨safe,bad,shut,bj⟩:=e
       simp only[ae,dZ]at*
       simp(disch:=omega)only[go_sem,K.dw,↓reduceIte,c,c0,c1,reduceAdd,reduceSub]
 · rintro st ⟨d,s,o,hl,hg,rfl⟩
   refine⟨_,?_,?_,d,s,o,hl,hg,rfl⟩
   · obtain⟨aa,roads⟩:=m
     obtain⟨safe,bad,shut,bj⟩:=e
     simp only[ae,dZ]at*
     simp(disch:=omega)only[go_sem,K.dw,↓reduceIte,reduceAdd,reduceSub]
   · simp
theorem Mx(aw:aD 0 N.iZ [] []=some (B true,[]))(li:List Int):aD 0 N.bW [.t (tL li)] []=some (B true,[]):=by
 refine ao K.j7 rfl ?_
 have lo:=TK li
 by_cases c:li.length≤400
 · simp only[c,decide_true]at lo
   have ro:=afy li
   have d0:(aG.mk li 0).dQ:=c
   generalize (aG.mk li 0)=d at*
   obtain⟨m,e1,mo,l1,hm,p1,p2,r1,r2⟩:=afz d0
   obtain⟨b,e2,be,l2,hv,hs,w6,n3,hT⟩:=Vq l1 hm (by omega)
   obtain⟨esc,e3,eo,l3,ev,ev2, -⟩:=Ve l2 hm (by omega) (by omega)
   have la:=aaW b hs
   have ll:=aaY hT
   have l0:=(aaX b).1
   have lp:∀z0 z1 z9 z10:D,∃(d:aG) (s o:List Int),d.dQ∧(lr s m.roads.length=true∧lr o m.roads.length=true)∧exS aD K.jG ⟨[z0,z1,.bp 0 0,.bp 1 0,.bp 2 0,.bp 3 0,.ref 4 0 0,.ref 5 0 0,I 0,z9,z10],[e3.obj,.box (ae m),.box [.t (.sl (b.av.map World.e))],.box (dZ esc),(.arr 1 false 0 []),(.arr 1 false 0 [])]⟩=
    some (.exit 0,⟨[.und,.und,.bp 0 0,.bp 1 0,.bp 2 0,.bp 3 0,.ref 4 0 s.length,.ref 5 0 o.length,I m.roads.length,.und,.und],[d.obj,.box (ae m),.box [.t (.sl (b.av.map World.e))],.box (dZ esc),kF s,kF o]⟩):=fun z0 z1 z9 z10=>Ss l3 hm esc b z0 z1 z9 z10
   obtain⟨e4,s,o,l4,⟨ss,oo⟩,lp⟩:=lp (.t (tL li)) (B false) .und .und
   have sl:=i9 ss
   have ol:=i9 oo
   have nr:=hm.nr
   obtain⟨g1,e5,go1,l5,g10,g11⟩:=QG l4 100 (by omega) (by omega)
   obtain⟨al,e6,so,l6,al1⟩:=afG l5 m.aa.length (by omega)
   obtain⟨ah,e7,oo7,l7, -⟩:=alf l6 [0,10,100] (by simp) (by simp)
   have h3:fX b≤3:=by
    have v:=zj (ws:=b.av) hv
    have:=(v.wv _ (ai (l:=b.av) (j:=0) (by have:=(iR hv).1;omega))).wl
    unfold fX
    omega
   generalize N8 b=q0 at*
   have n1:=EU hm ev hv hs h3 ss oo (al:=al) (by omega) (q0+g1-5) ah
   have n2:=EU hm ev hv hs h3 ss ss (al:=[]) (by simp) (q0+g1-5) 0
   clear hT hv ev ev2 ss oo hm
   simp only[tL,List.map_cons,List.map_nil]at oo7 n2
   obtain⟨aa,roads⟩:=m
   obtain⟨safe,bad,shut,bj⟩:=esc
   obtain⟨ws⟩:=b
   simp only[ae,dZ]at*
   simp(disch:=omega)only[go_sem,K.bW,↓reduceIte,lo,ro,mo,be,eo,la,lp,go1,so,oo7,n1,n2,aw,Bool.not_true,reduceAdd,reduceSub]
 · simp only[c,decide_false]at lo
   simp(disch:=omega)only[go_sem,K.bW,↓reduceIte,lo,aw,reduceAdd,reduceSub]
end Go.Ev
