/- Parts of the proof: see the text that holds the theorem. -/
import Derived.Test.YtifghciaddehaaaGreatZ3
set_option linter.all false
set_option maxRecDepth 100000
namespace Go.Ev.K
open Go.Ev
def sE:C:=(.its [u (.bin .lss v10 v9)] [] 0 .skip (.exit 0) (.seq (.blk 1 (.seq (.reg [m v10,a 2 v8 v10,h 2 l0,w 7 (.al [.nil,.nil] []),w 6 (.mv l3),u (.st l1 l2 2 [])] []) (.blk 2 (.ite [f 0 v7,g l0,u (.ln l0),u (.ca N.cV 0 [] [.l 0,.i 1,.i 12]),u (.un .not l0),m l0,y 0 false (.fa v7 1),y 1 false (.ld l0 1 false),y 2 false (.ln l0),y 3 false (.fa v7 0),y 4 false (.ld l0 1 false),y 5 false (.ln l0),y 6 false (.bin .neq l3 l0),u (.pk l7 (.b true) l0),m l0,y 0 false (.fa v7 0),y 1 false (.ld l0 1 false),y 2 false (.ca N.dU 0 [] [.l 0]),y 3 false (.un .not l0),u (.pk l4 (.b true) l0),m l0] [] 0 (.seq (.reg [w 4 (.mv (.b false))] []) .ret) (.ite [f 0 v7,g l0,u (.ca N.aP 0 [] [.l 0]),u (.ca N.bo 0 [] [.l 0]),m v5,u (.ca N.bf 0 [] [.l 1,.l 0]),u (.un .not l0),m l0] [] 0 (.seq (.reg [w 4 (.mv (.b false))] []) .ret) (.ite [m v6,u (.bin .gtr l0 (.i 0)),m l0,y 0 true (.fa v3 0),y 1 true (.ld l0 1 false),y 2 true (.mv v6),y 3 true (.bin .sub l0 (.i 1)),y 4 true (.ia l2 l0 2),y 5 true (.fa l0 0),y 6 true (.ld l0 1 false),y 7 true (.fa v7 0),y 8 true (.ld l0 1 false),y 9 true (.ca N.ba 0 [] [.l 2,.l 0]),y 10 true (.bin .geq l0 (.i 0)),u (.pk l11 l0 (.b false)),m l0] [] 0 (.seq (.reg [w 4 (.mv (.b false))] []) .ret) (.ite [f 1 v7,g l0,u (.mf N.dz [.v 2]),u (.ca N.ai 0 [] [.l 1,.l 0]),m l0] [] 0 (.seq (.reg [w 4 (.mv (.b false))] []) .ret) .skip))))))) (.reg [u (.bin .add v10 (.i 1)),w 10 (.mv l0)] [])))
def s9:C:= .loop true [0,1,4,6,7] K.sE
def eP:Fn:={ nargs:=2,vars:=[0,1,2,3,4,5,6,7,26,27,28],body:=(.seq (.reg [w 2 (.bx v0 2),w 3 (.bx v1 1),w 4 (.mv (.b false))] []) (.seq (.ite [h 2 v2,u (.ca N.bZ 0 [] [.l 0]),u (.un .not l0),m l0,y 0 false (.fa v3 0),y 1 false (.ld l0 1 false),y 2 false (.ln l0),y 3 false (.ca N.cV 0 [] [.l 0,.i 1,.i 24]),y 4 false (.un .not l0),u (.pk l5 (.b true) l0)] [] 0 (.seq (.reg [w 4 (.mv (.b false))] []) .ret) .skip) (.seq (.reg [f 0 v3,g l0,a 2 l0 (.i 0),f 0 l0,g l0,u (.ca N.aP 0 [] [.l 0]),u (.ca N.bo 0 [] [.l 0]),w 5 (.mv l0)] []) (.seq (.seq (.reg [f 0 v3,w 8 (.ld l0 1 false),w 9 (.ln l0),w 10 (.mv (.i 0))] []) (.blk 0 K.s9)) (.seq (.reg [w 4 (.mv (.b true))] []) .ret))))),res:=[(4,none)]}
def bo:Fn:={ nargs:=1,vars:=[2],body:= .fail,res:=[(0,none)],prim:=[2,N.aG]}
def aP:Fn:={ nargs:=1,vars:=[0,1,2],body:=(.seq (.reg [w 1 (.bx v0 1),w 2 (.mv (.c (.und)))] []) (.seq (.reg [u (.mf N.aG [.v 1]),w 2 (.mv l0)] []) .ret)),res:=[(2,none)]}
def dU:Fn:={ nargs:=1,vars:=[0,2,3],body:=(.seq (.reg [w 1 (.mv (.b false))] []) (.seq (.reg [m v0,u (.ca N.aP 0 [] [.l 0]),u (.ca N.bo 0 [] [.l 0]),w 2 (.mv l0)] []) (.seq (.reg [m v2,u (.ca N.bE 0 [] [.l 0,.i 1,.i 65535]),w 1 (.mv l0)] []) .ret))),res:=[(1,none)]}
def ja:C:=(.its [u (.bin .lss v9 v8)] [] 0 .skip (.exit 0) (.seq (.blk 1 (.seq (.reg [m v9,a 1 v7 v9,g l0,w 3 (.mv l2),w 4 (.mv l1)] []) (.seq (.ite [m v3,m v1,u (.ln l0),u (.bin .geq l2 l0)] [] 0 (.seq (.reg [w 2 (.mv (.i 1))] []) .ret) .skip) (.seq (.reg [m v1,m v3,a 1 l1 l0,g l0,w 5 (.mv l0)] []) (.seq (.reg [m v4,m v5,u (.ca N.cI 0 [] [.l 1,.l 0]),w 6 (.mv l0)] []) (.ite [m v6,u (.bin .neq l0 (.i 0))] [] 0 (.seq (.reg [m v6,w 2 (.mv l0)] []) .ret) .skip)))))) (.reg [u (.bin .add v9 (.i 1)),w 9 (.mv l0)] [])))
def jC:C:= .loop true [2,3,4,5,6] K.ja
def ba:Fn:={ nargs:=2,vars:=[0,1,4,5,6,7,8,9,10,11],body:=(.seq (.reg [w 2 (.mv (.i 0))] []) (.seq (.seq (.reg [w 7 (.mv v0),w 8 (.ln l0),w 9 (.mv (.i 0))] []) (.blk 0 K.jC)) (.seq (.ite [m v0,u (.ln l0),m v1,u (.ln l0),u (.bin .lss l2 l0)] [] 0 (.seq (.reg [w 2 (.mv (.i (-1)))] []) .ret) .skip) (.seq (.reg [w 2 (.mv (.i 0))] []) .ret)))),res:=[(2,none)]}
def ai:Fn:={ nargs:=2,vars:=[0,1,4],body:=(.seq (.reg [w 2 (.mv (.b false))] []) (.seq (.reg [m v0,m v1,u (.ca N.ak 0 [] [.l 1,.l 0]),u (.bin .geq l0 (.i 0)),w 2 (.mv l0)] []) .ret)),res:=[(2,none)]}
def dz:Fn:={ nargs:=2,vars:=[0,1,2,3],body:=(.seq (.reg [w 2 (.bx v0 2),w 3 (.mv (.b false))] []) (.seq (.reg [h 2 v1,h 2 v2,u (.ca N.dS 0 [] [.l 1,.l 0]),u (.un .not l0),w 3 (.mv l0)] []) .ret)),res:=[(3,none)]}
def iS:C:=(.its [u (.bin .lss v5 v4)] [] 0 .skip (.exit 0) (.seq (.blk 1 (.seq (.reg [a 1 v3 v5,g l0,w 2 (.mv l0)] []) (.ite [m v0,m v2,u (.cw l1 0 [] [.l 0]),u (.un .not l0)] [] 0 .ret .skip))) (.reg [u (.bin .add v5 (.i 1)),w 5 (.mv l0)] [])))
def jb:C:= .loop true [1,2] K.iS
def aG:Fn:={ nargs:=2,vars:=[0,1,4,5,6,7],body:=(.seq (.reg [w 3 (.ld v1 1 false),w 4 (.ln l0),w 5 (.mv (.i 0))] []) (.blk 0 K.jb)),res:=[]}
def cI:Fn:={ nargs:=2,vars:=[0,1,4,5,6],body:=(.seq (.reg [w 2 (.mv (.i 0))] []) (.seq (.reg [m v0,u (.ca N.cmp_isNaN_int 0 [] [.l 0]),w 3 (.mv l0)] []) (.seq (.reg [m v1,u (.ca N.cmp_isNaN_int 0 [] [.l 0]),w 4 (.mv l0)] []) (.seq (.ite [m v3] [] 0 (.seq (.ite [m v4] [] 0 (.seq (.reg [w 2 (.mv (.i 0))] []) .ret) .skip) (.seq (.reg [w 2 (.mv (.i (-1)))] []) .ret)) .skip) (.seq (.ite [m v4] [] 0 (.seq (.reg [w 2 (.mv (.i 1))] []) .ret) .skip) (.seq (.ite [m v0,m v1,u (.bin .lss l1 l0)] [] 0 (.seq (.reg [w 2 (.mv (.i (-1)))] []) .ret) .skip) (.seq (.ite [m v0,m v1,u (.bin .gtr l1 l0)] [] 0 (.seq (.reg [w 2 (.mv (.i 1))] []) .ret) .skip) (.seq (.reg [w 2 (.mv (.i 0))] []) .ret)))))))),res:=[(2,none)]}
def c9:C:=(.its [u (.bin .lss v5 v4)] [] 0 .skip (.exit 0) (.seq (.blk 1 (.seq (.reg [m v5,w 3 (.mv l0)] []) (.ite [m v1,m v0,m v3,a 2 l1 l0,h 2 l0,u (.cw l4 0 [] [.l 0])] [] 0 (.seq (.reg [m v3,w 2 (.mv l0)] []) .ret) .skip))) (.reg [u (.bin .add v5 (.i 1)),w 5 (.mv l0)] [])))
def dk:C:= .loop true [2,3] K.c9
def ak:Fn:={ nargs:=2,vars:=[0,1,4,5,7,8],body:=(.seq (.reg [w 2 (.mv (.i 0))] []) (.seq (.seq (.reg [m v0,w 4 (.ln l0),w 5 (.mv (.i 0))] []) (.blk 0 K.dk)) (.seq (.reg [w 2 (.mv (.i (-1)))] []) .ret))),res:=[(2,none)]}
def cmp_isNaN_int:Fn:={ nargs:=1,vars:=[0,2],body:=(.seq (.reg [w 1 (.mv (.b false))] []) (.seq (.reg [m v0,m v0,u (.bin .neq l1 l0),w 1 (.mv l0)] []) .ret)),res:=[(1,none)]}
end Go.Ev.K
namespace Go.Ev
class df [Lib]:Prop where
 o6:Lib.fs N.eP=some K.eP
 iT:Lib.fs N.bo=some K.bo
 gn:Lib.fs N.aP=some K.aP
 m9:Lib.fs N.dU=some K.dU
 fQ:Lib.fs N.ba=some K.ba
 bA:Lib.fs N.ai=some K.ai
 lJ:Lib.fs N.dz=some K.dz
 fC:Lib.fs N.aG=some K.aG
 j4:Lib.fs N.cI=some K.cI
 bN:Lib.fs N.ak=some K.ak
 lK:Lib.fs N.cmp_isNaN_int=some K.cmp_isNaN_int
namespace K
variable [Lib] [df]
theorem o6:Lib.fs N.eP=some K.eP:=df.o6
theorem iT:Lib.fs N.bo=some K.bo:=df.iT
theorem gn:Lib.fs N.aP=some K.aP:=df.gn
theorem m9:Lib.fs N.dU=some K.dU:=df.m9
theorem fQ:Lib.fs N.ba=some K.ba:=df.fQ
theorem bA:Lib.fs N.ai=some K.ai:=df.bA
theorem lJ:Lib.fs N.dz=some K.dz:=df.lJ
theorem fC:Lib.fs N.aG=some K.aG:=df.fC
theorem j4:Lib.fs N.cI=some K.cI:=df.j4
theorem bN:Lib.fs N.ak=some K.ak:=df.bN
theorem lK:Lib.fs N.cmp_isNaN_int=some K.cmp_isNaN_int:=df.lK
end K
end Go.Ev
namespace Go.Ev
open Go
variable [Lib] [bQ] [bC] [eE] [eB] [gU] [dW] [dR] [fP] [ez] [dF] [df]
end Go.Ev
namespace Go.Ev
open Go
variable [Lib] [bQ] [bC]
def zz(m:bj)(b:Bel)(tag:Int):Int:=if Y5 m b=false then 6 else if pW (nth b.worlds 0).tags tag<0 then 41 else 0
def XM(a b:Wh)(t:Int):Bool:=(List.range (min a.frm.length b.frm.length)).any fun p=>decide (nth a.frm p≤t∧nth b.frm p≤t)
def yg(m:bj)(starts:List Int)(t:Int)(j:Nat):List Wh:=(List.range j).map fun i=>(Cy m (nth starts i) t).1
@[simp] theorem Ln (m : bj) (starts : List Int) (t : Int) (j : Nat) : (yg m starts t j).length = j := by simp [yg]
def FN(m:bj)(tags starts:List Int)(t:Int):Bel×Int:=
 if tags.length=starts.length∧1≤tags.length∧tags.length≤12 then
  if yb tags=true then match (List.range tags.length).find? (fun i=> !decide ((Cy m (nth starts i) t).2=0))with
   | some i=>(⟨[]⟩,(Cy m (nth starts i) t).2)
   | none=>(⟨[⟨tags,yg m starts t tags.length⟩]⟩,0)
  else(⟨[]⟩,41)
 else(⟨[]⟩,6)
@[go_sem] theorem UW : ([] : List D).all gD = true := (rfl)
@[go_sem] theorem R6 (d : D) (r : List D) : (d :: r).all gD = (gD d && r.all gD) := (rfl)
@[go_sem] theorem Lo (cs : List T) : gD (.t (.agg cs)) = false := (rfl)
@[go_sem] theorem Ov (cs : List T) : gD (.t (.sl cs)) = false := (rfl)
@[go_sem] theorem Lp (k : IntKind) (n : Int) : gD (.t (.int k n)) = true := (rfl)
@[go_sem] theorem HN (b : Bool) : gD (.t (.bool b)) = true := (rfl)
@[go_sem] theorem Y9 (l : List Wh) (k : Nat) (a : Int) (b : List Int) : (List.map D.t (List.map Wh.e l)).set k (D.t (T.agg [tI a, tL b])) = List.map D.t (List.map Wh.e (l.set k ⟨a, b⟩)) := by
 rw[List.map_set,List.map_set]
def UX(m:bj)(tag:Int)(l:List Int)(a b:Int)(x:World):Wh×Int:=ZZ m (nth x.whr (pW x.tags tag).toNat) l a b
def Za(tag:Int)(x:World)(w:Wh):World:=⟨x.tags,x.whr.set (pW x.tags tag).toNat w⟩
def XN(tag:Int)(r:Wh×Int)(x:World)(out:List World):List World:=
 if r.2=43 then out else out++[if r.2=0 then Za tag x r.1 else x]
def Lq(m:bj)(tag:Int)(l:List Int)(a b:Int)(ws:List World):Nat→List World
 | 0=>[]
 | j+1=>XN tag (UX m tag l a b (nth ws j)) (nth ws j) (Lq m tag l a b ws j)
def R7(m:bj)(tag:Int)(l:List Int)(a b:Int)(ws:List World)(j:Nat):Bool:=decide ((UX m tag l a b (nth ws j)).2=6∨(UX m tag l a b (nth ws j)).2=8)
def R8(m:bj)(b:Bel)(tag:Int)(l:List Int)(a c:Int):Bel×Int:=
 if zz m b tag≠0 then(b,zz m b tag)else match (List.range b.worlds.length).find? (R7 m tag l a c b.worlds)with
  | some i=>(b,(UX m tag l a c (nth b.worlds i)).2)
  | none=>if(Lq m tag l a c b.worlds b.worlds.length).length=0 then(b,43)else(⟨Lq m tag l a c b.worlds b.worlds.length⟩,0)
def UY(m:bj)(tag:Int)(l:List Int)(a b bl:Int)(x:World):Wh×Int:=Z0 m (nth x.whr (pW x.tags tag).toNat) l a b bl
def XO(tag:Int)(r:Wh×Int)(x:World)(out:List World):List World:=out++[if r.2=0 then Za tag x r.1 else x]
def R9(m:bj)(tag:Int)(l:List Int)(a b bl:Int)(ws:List World):Nat→List World
 | 0=>[]
 | j+1=>XO tag (UY m tag l a b bl (nth ws j)) (nth ws j) (R9 m tag l a b bl ws j)
def Sa(m:bj)(tag:Int)(l:List Int)(a b bl:Int)(ws:List World)(j:Nat):Bool:=decide ((UY m tag l a b bl (nth ws j)).2=6∨(UY m tag l a b bl (nth ws j)).2=8)
def Sb(m:bj)(b:Bel)(tag:Int)(l:List Int)(a c bl:Int):Bel×Int:=
 if zz m b tag≠0 then(b,zz m b tag)else match (List.range b.worlds.length).find? (Sa m tag l a c bl b.worlds)with
  | some i=>(b,(UY m tag l a c bl (nth b.worlds i)).2)
  | none=>(⟨R9 m tag l a c bl b.worlds b.worlds.length⟩,0)
theorem FO{gc:Bool}{dead:List Nat}{c:C}{vs:List D}{H:ab}(P:Nat→St→Prop)(n:Nat)(Q:Ex×St→Prop)(h0:P 0 ⟨gy dead vs,H⟩)
 (hs:∀j st,j<n→P j st→∃st',iQ gc dead st.H.length (exS bY c st)=some st'∧P (j+1) st')
 (he:∀st,P n st→∃q,exS bY c st=some q∧q.1≠ .normal∧Q q):∃q,exS bY (.loop gc dead c) ⟨vs,H⟩=some q∧Q q:=by
 have key:∀(k j:Nat) (st:St),j+k=n→P j st→∃q,ju gc dead (exS bY c) st=some q∧Q q:=by
  intro k
  induction k with
  | zero=>
    intro j st hj hp
    obtain⟨q,h1,h2,h3⟩:=he st (by rw[← hj];exact hp)
    exact⟨q,fL h1 h2,h3⟩
  | succ k ih=>
    intro j st hj hp
    obtain⟨st',h1,h2⟩:=hs j st (by omega) hp
    obtain⟨q,h3,h4⟩:=ih (j+1) st' (by omega) h2
    exact⟨q,jR h1 h3,h4⟩
 exact key n 0 _ (by omega) h0
abbrev ints(l:List Int):List D:=(l.map (T.int .i64)).map .t
abbrev whs(l:List Wh):List D:=(l.map Wh.e).map .t
def AB(out:List World)(x:World):Nat:=match (List.range out.length).find? (fun k=> !RM (nth out k).tags x.tags)with
 | some k=>k
 | none=>out.length
def Sc(a b:List Wh):Nat→List Wh
 | 0=>a
 | p+1=>(Sc a b p).set p (Fh (nth a p) (nth b p)).1
def Sd(a b:List Wh):List Wh:=Sc a b (min a.length b.length)
def XP(out:List World)(x:World):List World:=
 if AB out x<out.length∧(nth out (AB out x)).tags=x.tags then out.set (AB out x) ⟨x.tags,Sd (nth out (AB out x)).whr x.whr⟩
 else out.take (AB out x)++[x]++out.drop (AB out x)
def Se(l:List World):Nat→List World
 | 0=>[]
 | j+1=>XP (Se l j) (nth l j)
def Sf(l:List World):List World:=Se l l.length
structure Rp(H:ab)(id:Nat)(es:List D)(fa fb:Nat→Nat)(out:List World):Prop where
 arr:H[id]?=some (.arr 2 false 0 es)
 len:es.length=out.length
 el:∀j,j<out.length→es[j]?=some (.agg [.ref (fa j) 0 (nth out j).tags.length,.ref (fb j) 0 (nth out j).whr.length])
 ha:∀j,j<out.length→H[fa j]?=some (.arr 1 false 0 (ints (nth out j).tags))
 hb:∀j,j<out.length→H[fb j]?=some (.arr 2 false 0 (whs (nth out j).whr))
 na:∀j,j<out.length→fa j≠id
 nb:∀j,j<out.length→fb j≠id
 nab:∀i j,i<out.length→j<out.length→fa i≠fb j
 nbb:∀i j,i<out.length→j<out.length→i≠j→fb i≠fb j
@[go_sem] theorem UZ (a b : Wh) : (Fh a b).1.e = .agg [tI (Fh a b).1.time, tL (Fh a b).1.frm] := rfl
theorem Rp.size{H:ab}{id:Nat}{es:List D}{fa fb:Nat→Nat}{out:List World}(hr:Rp H id es fa fb out):∀e∈es,e.cells.length=2:=by
 intro e he
 obtain⟨j,hj⟩:=List.mem_iff_getElem?.1 he
 have hl:=(List.getElem?_eq_some_iff.1 hj).1
 rw[hr.el j (by rw[← hr.len];exact hl)]at hj
 cases hj;rfl
theorem yh{α:Type} [Dat α](l:List α)(k:Nat)(hk:k<l.length)(x:α)(j:Nat):nth (l.set k x) j=if j=k then x else nth l j:=by
 unfold nth
 rw[List.getD_eq_getElem?_getD]
 by_cases h:j=k
 · rw[if_pos h,h,List.getElem?_set_self hk];rfl
 · rw[if_neg h,List.getElem?_set_ne (fun e=>h e.symm),List.getD_eq_getElem?_getD]
theorem Rp.merge{H:ab}{id:Nat}{es:List D}{fa fb:Nat→Nat}{out:List World}(hr:Rp H id es fa fb out){k:Nat}(hk:k<out.length)(x:World)(ht:(nth out k).tags=x.tags)(hw:x.whr.length=(nth out k).whr.length):
 Rp (H.set (fb k) (.arr 2 false 0 (whs x.whr))) id es fa fb (out.set k x):=by
 have ol:(out.set k x).length=out.length:=List.length_set
 have nk:=hr.nb k hk
 have kl:=uU (hr.hb k hk)
 refine⟨by rw[lB nk];exact hr.arr,by rw[ol];exact hr.len,?_,?_,?_,by rw[ol];exact hr.na,by rw[ol];exact hr.nb,by rw[ol];exact hr.nab,by rw[ol];exact hr.nbb⟩
 · intro j hj
   rw[ol]at hj
   rw[hr.el j hj,yh out k hk]
   by_cases h:j=k
   · rw[if_pos h,h,ht,hw]
   · rw[if_neg h]
 · intro j hj
   rw[ol]at hj
   rw[lB (fun e=>hr.nab j k hj hk e.symm),hr.ha j hj,yh out k hk]
   by_cases h:j=k
   · rw[if_pos h,h,ht]
   · rw[if_neg h]
 · intro j hj
   rw[ol]at hj
   rw[yh out k hk]
   by_cases h:j=k
   · rw[if_pos h,h,Al kl]
   · rw[if_neg h,lB (fun e=>hr.nbb j k hj hk h e.symm)];exact hr.hb j hj
theorem Rp.frz{H:ab}{id:Nat}{es:List D}{fa fb:Nat→Nat}{out:List World}(hr:Rp H id es fa fb out):
 bn (frz H 8) es=some (out.map World.e)∧∀i∈es.flatMap (cY H 8),i≠id:=by
 have hl:=hr.len
 have key:∀(j:Nat) (hj:j<out.length),Go.Ev.frz H 8 (.agg [.ref (fa j) 0 (nth out j).tags.length,.ref (fb j) 0 (nth out j).whr.length])=some (nth out j).e∧
  cY H 8 (.agg [.ref (fa j) 0 (nth out j).tags.length,.ref (fb j) 0 (nth out j).whr.length])=[fa j,fb j]:=by
  intro j hj
  have h1:=hr.ha j hj
  have h2:=hr.hb j hj
  simp (disch:=omega) only[go_sem,h1,h2,ints,whs,↓reduceIte]
 constructor
 · have:∀(es:List D) (ts:List T),es.length=ts.length→(∀(j:Nat) e t,es[j]?=some e→ts[j]?=some t→Go.Ev.frz H 8 e=some t)→bn (Go.Ev.frz H 8) es=some ts:=by
    intro es
    induction es with
    | nil=>intro ts h _;cases ts with
      | nil=>rfl
      | cons=>simp at h
    | cons e es ih=>
      intro ts h hh
      cases ts with
      | nil=>simp at h
      | cons t ts=>
        have h1:=hh 0 e t rfl rfl
        have h2:=ih ts (by simpa using h) fun j e t he ht=>hh (j+1) e t (by simpa using he) (by simpa using ht)
        simp only[bn,h1,Option.bind_some,h2,Option.map_some]
   refine this es _ (by rw[List.length_map,hl]) fun j e t he ht=>?_
   have hj:j<out.length:=by rw[← hl];exact(List.getElem?_eq_some_iff.1 he).1
   rw[hr.el j hj]at he
   rw[ek _ hj]at ht
   cases he;cases ht
   exact(key j hj).1
 · intro i hi
   obtain⟨e,he,hi⟩:=List.mem_flatMap.1 hi
   obtain⟨j,hj⟩:=List.mem_iff_getElem?.1 he
   have hjl:j<out.length:=by rw[← hl];exact(List.getElem?_eq_some_iff.1 hj).1
   rw[hr.el j hjl]at hj
   cases hj
   rw[(key j hjl).2]at hi
   simp only[List.mem_cons,List.not_mem_nil,or_false]at hi
   rcases hi with rfl | rfl
   · exact hr.na j hjl
   · exact hr.nb j hjl
@[go_sem] theorem HO {α β γ : Type} [Dat α] (f : β → γ) (g : α → β) {l : List α} {i j : Nat} {x : α} (h : j < l.length) : (((l.set i x).map g).map f)[j]? = some (f (g (nth (l.set i x) j))) := zk f g (by rw [List.length_set]; exact h)
def XQ(l:List Int)(i j:Nat):List Int:=(l.set i (nth l j)).set j (nth l i)
def XR(i j:Nat)(t:Int)(x:World):World:=⟨XQ x.tags i j,(x.whr.set i (G7 (nth x.whr i) t).1).set j (G7 (nth x.whr j) t).1⟩
def XT(i j:Nat)(t:Int)(x:World)(out:List World):List World:=if XM (nth x.whr i) (nth x.whr j) t=true then out++[XR i j t x]else out
def C6(i j:Nat)(t:Int)(ws:List World):Nat→List World
 | 0=>ws
 | k+1=>XT i j t (nth ws k) (C6 i j t ws k)
def Lr(m:bj)(b:Bel)(i j t:Int):Bel×Int:=
 if Y5 m b=false then(b,6)else if i<0∨((nth b.worlds 0).tags.length:Int)≤i∨j<0∨((nth b.worlds 0).tags.length:Int)≤j∨i=j then(b,19)
 else if ¬inT t then(b,8)else if 24<(Sf (C6 i.toNat j.toNat t b.worlds b.worlds.length)).length then(b,44)else(⟨Sf (C6 i.toNat j.toNat t b.worlds b.worlds.length)⟩,0)
def Sg:Nat→List Int
 | 0=>[]
 | k+1=>Sg k++[3+(k:Int)*2]
def aE.zA(d:aE)(n:Int):Nat→List Int×aE
 | 0=>([],d)
 | k+1=>((d.zA n k).1++[((d.zA n k).2.next n).1],((d.zA n k).2.next n).2)
structure BSt where
 b:Bel
 t:Int
 d:aE
def aE.Lt(m:bj)(n:Int)(s:BSt):BSt:=
 let a:=s.d.next 60
 let c:=a.2.next 3
 if c.1=0 then
  let i:=c.2.next n
  let j:=i.2.next n
  let r:=Lr m s.b i.1 j.1 (s.t+a.1)
  ⟨if r.2=0 then r.1 else s.b,s.t+a.1,j.2⟩
 else if c.1=1 then
  let g:=c.2.next n
  let l:=g.2.Ag m.places.length
  let e:=l.2.next 9
  let r:=R8 m s.b (3+2*g.1) l.1 (s.t+a.1) (s.t+a.1+e.1)
  ⟨if r.2=0 then r.1 else s.b,s.t+a.1,e.2⟩
 else
  let g:=c.2.next n
  let l:=g.2.Ag m.places.length
  let e:=l.2.next 40
  let r:=Sb m s.b (3+2*g.1) l.1 (s.t+a.1) (s.t+a.1+50) e.1
  ⟨if r.2=0 then r.1 else s.b,s.t+a.1,e.2⟩
def aE.Zb(m:bj)(n:Int)(s:BSt):Nat→BSt
 | 0=>s
 | k+1=>aE.Lt m n (aE.Zb m n s k)
def aE.XU(d:aE):Nat:=(1+(d.next 3).1).toNat
def aE.U0(d:aE)(m:bj):List Int×aE:=(d.next 3).2.zA m.places.length d.XU
def aE.Z4(d:aE)(m:bj):BSt:=⟨(FN m (Sg d.XU) (d.U0 m).1 ((d.U0 m).2.next 100).1).1,100,(((d.U0 m).2.next 100).2.next 5).2⟩
def aE.Z5(d:aE)(m:bj):Nat:=(((d.U0 m).2.next 100).2.next 5).1.toNat
def aE.Zc(d:aE)(m:bj):BSt:=aE.Zb m d.XU (d.Z4 m) (d.Z5 m)
def aE.Zd(d:aE)(m:bj):Bel×aE:=((d.Zc m).b,(d.Zc m).d)
structure WOk(m:bj)(N:Nat)(x:World):Prop where
 tg:x.tags.length=N
 wh:x.whr.length=N
 fr:∀w∈x.whr,w.frm.length=m.places.length
 ti:∀w∈x.whr,inT w.time
structure BOk(m:bj)(N:Nat)(b:Bel):Prop where
 w1:1≤b.worlds.length
 w2:b.worlds.length≤24
 n1:1≤N
 n2:N≤12
 ws:∀x∈b.worlds,WOk m N x
theorem WOk.sz{m:bj}{N:Nat}{x:World}(h:WOk m N x)(hm:m.ok)(hn:N≤12):x.sz:=by
 have np:=hm.np
 obtain⟨t1,t2,t3, -⟩:=h
 exact⟨by omega,by omega,fun w hw=>by rw[t3 w hw];omega⟩
theorem BOk.sz{m:bj}{N:Nat}{b:Bel}(h:BOk m N b)(hm:m.ok):b.sz:=
 ⟨by have:=h.w2;omega,fun x hx=>(h.ws x hx).sz hm h.n2⟩
def aE.spread(d:aE)(m:bj)(fl:List Spn):Wh×aE:=
 let p:=d.next m.places.length
 let t:=p.2.next 200
 let s:=RJ m fl [p.1] t.1
 let o:=t.2.one 2
 if o.1=true then
  let f:=o.2.XL m
  let a:=f.2.next 100
  let r:=KK m fl m f.1 s.1 (s.1.time+a.1)
  if r.2=0 then(r.1,a.2)else(s.1,a.2)
 else(s.1,o.2)
structure Mch where
 kind:Int
 num:Int
 pl:List Int
instance : Dat Mch := ⟨⟨0, 0, []⟩⟩
abbrev Mch.e(x:Mch):T:= .agg [tI x.kind,tI x.num,tL x.pl]
@[go_sem] theorem Si (l : List Mch) : jw 3 (l.map Mch.e) = true := by cases l <;> rfl
end Go.Ev
namespace Go.Ev
open Go
variable [Lib] [bQ] [bC] [eE] [eB] [gU] [dW] [dR] [fP] [ez] [dF] [df]
end Go.Ev
namespace Go.Ev
open Go
variable [Lib] [bQ] [bC] [fP] [ez]
end Go.Ev
namespace Go.Ev
open Go
variable [Lib] [bQ] [bC] [eE] [eB] [dW] [dR] [fP] [ez]
end Go.Ev
namespace Go.Ev
open Go
variable [Lib] [bQ] [bC]
section
variable {m : bj} (hm : m.ok) {N : Nat} {b : Bel} (hb : BOk m N b) {s : Wh} (hs : s.frm.length = m.places.length) {l : List Mch}
variable (hl : ∀ y ∈ l, y.pl.length ≤ m.places.length ∧ 1 ≤ y.pl.length ∧ ∀ x ∈ y.pl, 0 ≤ x ∧ x < m.places.length) {t a : Int} (t0 : 0 ≤ t) (t1 : t ≤ 10000) (a0 : 0 ≤ a) (a1 : a ≤ 10000) (d : aE)
include hm hb hs hl t0 t1 a0 a1
omit hm hb t0 t1 a1 in
end
def aE.skip(d:aE)(n:Int):Nat→aE
 | 0=>d
 | k+1=>((d.skip n k).next n).2
end Go.Ev
namespace Go.Ev
open Go
variable [Lib] [bQ] [bC] [gU]
end Go.Ev
namespace Go.Ev
open Go
variable [Lib] [bQ] [bC] [eE] [eB] [gU] [dW] [dR] [fP] [ez]
end Go.Ev
namespace Go.Ev
open Go
variable [Lib] [bQ] [bC] [eE] [eB] [gU] [dW] [dR] [fP] [ez] [dF] [df]
def lexB:List Int→List Int→Bool
 | _,[]=>false
 | [],_::_=>true
 | a::r,b::s=>decide (a<b)||(decide (a=b)&&lexB r s)
structure WV(m:bj)(first:List Int)(x:World):Prop where
 pm:x.tags.Perm first
 wl:x.whr.length=first.length
 wv:∀w∈x.whr,wG m w=true
structure BV(m:bj)(first:List Int)(ws:List World):Prop where
 pr:yb first=true
 f1:1≤first.length
 f2:first.length≤12
 wv:∀x∈ws,WV m first x
 up:ws.Pairwise fun x y=>lexB x.tags y.tags=true
end Go.Ev
namespace Go.Ev.K
open Go.Ev
end Go.Ev.K
namespace Go.Ev
class iF [Lib]:Prop where
namespace K
variable [Lib] [iF]
end K
end Go.Ev
namespace Go.Ev.K
open Go.Ev
def sF:C:=(.its [u (.bin .lss v7 v6)] [] 0 .skip (.exit 0) (.seq (.blk 1 (.seq (.reg [a 2 v5 v7,h 2 l0,w 4 (.al [.t (.int .i64 (0)),.nil] []),u (.st l0 l1 2 [])] []) (.reg [f 1 v3,g l0,f 0 v4,g l0,f 1 v4,g l0,u (.ca N.aH 0 [] [.l 0]),u (.bd [.t (.int .i64 (0)),.nil] [(0,1,.l 3),(1,1,.l 0)]),u (.bs [.l 0] 2),u (.app l7 l0 true 2),f 1 v3,u (.st l0 l1 1 [])] [(1,7),(1,9),(3,7)]))) (.reg [u (.bin .add v7 (.i 1)),w 7 (.mv l0)] [])))
def tc:C:= .loop true [0,1,4] K.sF
def fH:Fn:={ nargs:=1,vars:=[0,1,2,3,5,11,12,13],body:=(.seq (.reg [w 1 (.bx v0 2),w 2 (.al [.nil,.nil] [])] []) (.seq (.reg [f 0 v1,g l0,u (.ca N.aH 0 [] [.l 0]),u (.bd [.nil,.nil] [(0,1,.l 0)]),w 3 (.al [.nil,.nil] [(1,2)]),u (.st l0 l1 2 [(1,2)])] []) (.seq (.seq (.reg [f 1 v1,w 5 (.ld l0 1 false),w 6 (.ln l0),w 7 (.mv (.i 0))] []) (.blk 0 K.tc)) (.seq (.reg [h 2 v3,u (.st v2 l0 2 [])] []) .ret)))),res:=[(2,some (2,true))]}
def sG:C:=(.its [u (.bin .lss v20 v19)] [] 0 .skip (.exit 2) (.seq (.blk 3 (.seq (.reg [m v20,a 2 v18 v20,h 2 l0,w 12 (.al [.t (.int .i64 (0)),.nil] []),w 11 (.mv l3),u (.st l1 l2 2 [])] []) (.seq (.reg [h 2 v3,h 2 v12,m v2,u (.ca N.dT 0 [] [.l 2,.l 1,.l 0]),m l0,u (.ex l0 0),u (.ex l1 1),w 13 (.al [.t (.int .i64 (0)),.nil] []),u (.st l0 l2 2 []),w 14 (.mv l2)] []) (.seq (.ite [m v14,u (.bin .eql l0 (.i 6))] [] 0 (.seq (.reg [h 1 v4,m v14,u (.st v5 l1 1 []),w 6 (.mv l1)] []) .ret) .skip) (.seq (.ite [m v8,u (.bin .eql l0 (.i 0))] [] 0 (.reg [m v14,w 8 (.mv l0)] []) .skip) (.reg [f 1 v10,g l0,m v11,h 2 v13,a 2 l2 l1,u (.st l0 l1 2 [])] [])))))) (.reg [u (.bin .add v20 (.i 1)),w 20 (.mv l0)] [])))
def td:C:= .loop true [0,1,6,9,11,12,13,14] K.sG
def sH:C:=(.its [u (.bin .lss v17 v16)] [] 0 .skip (.exit 0) (.seq (.blk 1 (.seq (.reg [a 2 v15 v17,h 2 l0,w 9 (.al [.nil,.nil] []),u (.st l0 l1 2 [])] []) (.seq (.reg [h 2 v9,u (.ca N.c7 1 [] [.l 0]),w 10 (.al [.nil,.nil] []),u (.st l0 l1 2 [])] []) (.seq (.seq (.reg [f 1 v9,w 18 (.ld l0 1 false),w 19 (.ln l0),w 20 (.mv (.i 0))] []) (.blk 2 K.td)) (.reg [f 0 v7,g l0,h 2 v10,u (.bs [.l 0] 2),u (.app l2 l0 true 2),f 0 v7,u (.st l0 l1 1 [])] []))))) (.reg [u (.bin .add v17 (.i 1)),w 17 (.mv l0)] [])))
def te:C:= .loop true [0,1,6,9,10,11,12,13,14,18,19,20] K.sH
def eQ:Fn:={ nargs:=3,vars:=[0,1,2,3,4,6,7,8,9,11,12,13,14,15,16,29,30,31,38,39,40],body:=(.seq (.reg [w 3 (.bx v0 2),w 4 (.bx v1 1),w 5 (.al [.nil] []),w 6 (.mv (.i 0))] []) (.seq (.ite [h 2 v3,u (.ca N.bZ 0 [] [.l 0]),u (.un .not l0),m l0,y 0 false (.fa v4 0),y 1 false (.ld l0 1 false),y 2 false (.ln l0),y 3 false (.ca N.cV 0 [] [.l 0,.i 1,.i 24]),y 4 false (.un .not l0),u (.pk l5 (.b true) l0)] [] 0 (.seq (.reg [h 1 v4,u (.st v5 l0 1 []),w 6 (.mv (.i 6))] []) .ret) .skip) (.seq (.reg [w 7 (.al [.nil] [(0,2)])] []) (.seq (.reg [w 8 (.mv (.i 0))] []) (.seq (.seq (.reg [f 0 v4,w 15 (.ld l0 1 false),w 16 (.ln l0),w 17 (.mv (.i 0))] []) (.blk 0 K.te)) (.seq (.ite [m v8,u (.bin .neq l0 (.i 0))] [] 0 (.seq (.reg [h 1 v4,m v8,u (.st v5 l1 1 []),w 6 (.mv l1)] []) .ret) .skip) (.seq (.reg [h 1 v7,u (.st v5 l0 1 []),w 6 (.mv (.i 0))] []) .ret))))))),res:=[(5,some (1,true)),(6,none)]}
def o7:C:=(.its [u (.bin .lss v7 v6)] [] 0 .skip (.exit 0) (.seq (.blk 1 (.seq (.reg [a 2 v5 v7,h 2 l0,w 4 (.al [.t (.int .i64 (0)),.nil] []),u (.st l0 l1 2 [])] []) (.reg [f 1 v3,g l0,f 0 v4,g l0,f 1 v4,g l0,u (.ca N.aH 1 [] [.l 0]),u (.bd [.t (.int .i64 (0)),.nil] [(0,1,.l 3),(1,1,.l 0)]),u (.bs [.l 0] 2),u (.app l7 l0 true 2),f 1 v3,u (.st l0 l1 1 [])] [(1,7),(1,9),(3,7)]))) (.reg [u (.bin .add v7 (.i 1)),w 7 (.mv l0)] [])))
def pY:C:= .loop true [0,1,4] K.o7
def c7:Fn:={ nargs:=1,vars:=[0,1,2,3,5,11,12,13],body:=(.seq (.reg [w 1 (.bx v0 2),w 2 (.al [.nil,.nil] [])] []) (.seq (.reg [f 0 v1,g l0,u (.ca N.aH 1 [] [.l 0]),u (.bd [.nil,.nil] [(0,1,.l 0)]),w 3 (.al [.nil,.nil] [(1,2)]),u (.st l0 l1 2 [(1,2)])] []) (.seq (.seq (.reg [f 1 v1,w 5 (.ld l0 1 false),w 6 (.ln l0),w 7 (.mv (.i 0))] []) (.blk 0 K.pY)) (.seq (.reg [h 2 v3,u (.st v2 l0 2 [])] []) .ret)))),res:=[(2,some (2,true))]}
end Go.Ev.K
namespace Go.Ev
class gK [Lib]:Prop where
 o8:Lib.fs N.fH=some K.fH
 o9:Lib.fs N.eQ=some K.eQ
 kQ:Lib.fs N.c7=some K.c7
namespace K
variable [Lib] [gK]
theorem o8:Lib.fs N.fH=some K.fH:=gK.o8
theorem o9:Lib.fs N.eQ=some K.eQ:=gK.o9
theorem kQ:Lib.fs N.c7=some K.c7:=gK.kQ
end K
end Go.Ev
namespace Go.Ev
open Go
variable [Lib] [bQ] [bC] [eE] [eB] [gU] [dW] [dR] [fP] [ez] [dF] [df] [iF] [gK]
end Go.Ev
namespace Go.Ev
open Go
variable [Lib] [bQ] [bC] [eE] [eB] [gU] [dW] [dR] [fP] [ez]
end Go.Ev
namespace Go.Ev
open Go
variable [Lib] [bQ] [bC] [eE] [eB] [gU] [dW] [dR] [fP] [ez] [dF] [df]
structure SH(n p:Nat)(l:List Wh):Prop where
 ln:l.length=n
 fr:∀w∈l,w.frm.length=p
theorem WV.sh{m:bj}{first:List Int}{x:World}(h:WV m first x):SH first.length m.places.length x.whr:=
 ⟨h.wl,fun w hw=>(ya (h.wv w hw)).1⟩
end Go.Ev
namespace Go.Ev
open Go
variable [Lib] [bQ] [bC] [eE] [eB] [gU] [dW] [dR] [fP] [ez] [dF] [df] [iF] [gK]
theorem Rp.more{H:ab}{id:Nat}{es:List D}{fa fb:Nat→Nat}{out:List World}(hr:Rp H id es fa fb out)(t:ab):Rp (H++t) id es fa fb out:=
 ⟨by rw[qz (uU hr.arr)];exact hr.arr,hr.len,hr.el,fun j hj=>by rw[qz (uU (hr.ha j hj))];exact hr.ha j hj,fun j hj=>by rw[qz (uU (hr.hb j hj))];exact hr.hb j hj,hr.na,hr.nb,hr.nab,hr.nbb⟩
end Go.Ev
namespace Go.Ev
open Go
variable [Lib] [bQ] [bC] [eE] [eB] [gU] [dW] [dR] [fP] [ez] [dF] [df]
end Go.Ev
namespace Go.Ev
open Go
variable [Lib] [bQ] [bC] [dW] [dR]
abbrev FP:Int:=2147483648
section
variable {m : bj} (h : m.ok) {fl : List Spn}
include h
end
end Go.Ev
namespace Go.Ev
open Go
theorem uh{α:Type}{f:α→α×Bool}(P:α→Prop)(hP:∀l,P l→P (f l).1):∀n l,P l→P (jl f n l)
 | 0,l,h=>h
 | n+1,l,h=>by
   unfold jl
   split
   · exact uh P hP n _ (hP l h)
   · exact hP l h
def clP(m:bj)(fl:List Spn)(y:List Int):Prop:=∀k,k<m.roads.length→∀back,0≤pU (nth m.roads k) (nth fl k) back→
 nth y ((nth m.roads k).src back).toNat+pU (nth m.roads k) (nth fl k) back≤FP→
 nth y ((nth m.roads k).dst back).toNat≤nth y ((nth m.roads k).src back).toNat+pU (nth m.roads k) (nth fl k) back
variable [Lib] [bQ] [bC] [dW] [dR]
end Go.Ev
namespace Go.Ev
open Go
variable [Lib] [bQ] [bC] [dW] [dR]
def XV(l:List Int):Prop:=∀x∈l,0≤x∧(x≤FP∨x=1099511627776)
theorem XV.bnd{l:List Int}(h:XV l):bnd l:=fun x hx=>by have:=h x hx;simp only[FP]at this;omega
end Go.Ev
namespace Go.Ev
open Go
variable [Lib] [bQ] [bC] [eE] [eB] [dW] [dR]
theorem mr{l:List Int}{n:Int}(h:nB l n=true):∀x∈l,0≤x∧x<n:=by
 intro x hx
 simp only[nB,List.all_eq_true,List.mem_range,decide_eq_true_eq]at h
 obtain⟨j,hj⟩:=List.mem_iff_getElem?.1 hx
 have:=h j (List.getElem?_eq_some_iff.1 hj).1
 rw[m6 hj]at this
 exact⟨this.1,this.2.1⟩
theorem Sj{p:Int}{n:Int}(h0:0≤p)(h1:p<n):nB [p] n=true:=by
 simp only[nB,List.all_eq_true,List.mem_range,decide_eq_true_eq]
 intro j hj
 obtain rfl:j=0:=by simpa using hj
 exact⟨h0,h1,fun h=>absurd h (by omega)⟩
structure Sk(m:bj)(fl:List Spn)(s:Wh):Prop where
 ln:s.frm.length=m.places.length
 ti:inT s.time
 tm:XV s.frm
 lo:∀x∈s.frm,s.time≤x
 cl:clP m fl s.frm
theorem Sk.valid{m:bj}{fl:List Spn}{s:Wh}(h:Sk m fl s):CP m s=true:=by
 simp only[CP,Bool.and_eq_true,decide_eq_true_eq,List.all_eq_true,List.mem_range]
 refine⟨fun j hj=>?_,h.ln,h.ti⟩
 have a:=h.tm _ (b9 hj)
 have b:=h.lo _ (b9 hj)
 unfold plS
 simp only[FP]at a
 omega
end Go.Ev
namespace Go.Ev
open Go
variable [Lib] [bQ] [bC] [eE] [eB] [gU] [dW] [dR] [fP] [ez] [dF] [df]
section
variable {m : bj} (hm : m.ok) (l : List Mch) (hl : l.length ≤ 1000) (hp : ∀ x ∈ l, x.pl.length ≤ 1000000) (s : Wh) (hs : s.frm.length ≤ 1000000) (b : Bel) (hb : b.sz) (t a : Int)
include hm hl hp hs hb
end
end Go.Ev
namespace Go.Ev
open Go
variable [Lib] [bQ] [bC] [eE] [eB] [dW] [dR]
end Go.Ev
namespace Go.Ev
open Go
variable [Lib] [bQ] [bC]
def sh(s x:Int):Int:=if x<1099511627776 then x+s else x
def shL(s:Int)(l:List Int):List Int:=l.map (sh s)
@[simp] theorem XW (s : Int) (l : List Int) : (shL s l).length = l.length := List.length_map ..
end Go.Ev
namespace Go.Ev
open Go
variable [Lib] [bQ] [bC] [eE] [eB] [gU] [dW] [dR] [fP] [ez]
theorem sI(l:List Int)(x:Int){j:Nat}(hj:j<l.length):nth (l++[x]) j=nth l j:=by
 unfold nth;simp[List.getD_eq_getElem?_getD,List.getElem?_append_left hj]
theorem C7(l:List Int)(x:Int):nth (l++[x]) l.length=x:=by
 unfold nth;simp[List.getD_eq_getElem?_getD]
theorem wQ{l:List Int}{n:Nat}(h:nB l n=true):nB l ((n+1:Nat):Int)=true∧nB (l++[(n:Int)]) ((n+1:Nat):Int)=true:=by
 simp only[nB,List.all_eq_true,List.mem_range,decide_eq_true_eq]at h ⊢
 refine⟨fun j hj=>?_,fun j hj=>?_⟩
 · obtain⟨a,b,c⟩:=h j hj;exact⟨a,by omega,c⟩
 · by_cases c:j<l.length
   · obtain⟨a,b,c⟩:=h j c
     rw[sI _ _ (by omega)]
     refine⟨a,by omega,fun hj=>?_⟩
     rw[sI _ _ (by omega)];exact c hj
   · have e:j=l.length:=by simp at hj;omega
     subst e
     rw[C7]
     refine⟨by omega,by omega,fun hj=>?_⟩
     rw[sI _ _ (by omega)]
     exact(h (l.length-1) (by omega)).2.1
end Go.Ev
namespace Go.Ev
open Go
variable [Lib] [bQ] [bC] [eE] [eB] [gU] [dW] [dR] [fP] [ez] [dF] [df]
end Go.Ev
namespace Go.Ev
open Go
variable [Lib] [bQ] [bC] [eE] [eB] [gU] [dW] [dR] [fP] [ez] [dF] [df] [iF] [gK]
end Go.Ev
namespace Go.Ev
open Go
variable [Lib] [bQ] [bC] [eE] [eB]
theorem C8{H H':ab}:∀(k:Nat) (d:D),(∀i∈cY H k d,∃sz pin pin' ep es,H[i]?=some (.arr sz pin ep es)∧H'[i]?=some (.arr sz pin' ep es))→frz H' k d=frz H k d∧cY H' k d=cY H k d:=by
 intro k
 induction k with
 | zero=>intro d _;cases d<;>exact⟨rfl,rfl⟩
 | succ k ih=>
   intro d h
   have list:∀es:List D,(∀i∈es.flatMap (cY H k),∃sz pin pin' ep es,H[i]?=some (.arr sz pin ep es)∧H'[i]?=some (.arr sz pin' ep es))→bn (frz H' k) es=bn (frz H k) es∧es.flatMap (cY H' k)=es.flatMap (cY H k):=by
    intro es
    induction es with
    | nil=>intro _;exact⟨rfl,rfl⟩
    | cons e es ihl=>
      intro he
      obtain⟨a1,a2⟩:=ih e fun i hi=>he i (by simp[hi])
      obtain⟨b1,b2⟩:=ihl fun i hi=>he i (by rw[List.flatMap_cons];exact List.mem_append_right _ hi)
      exact⟨by simp only[bn,a1,b1],by simp only[List.flatMap_cons,a2,b2]⟩
   cases d with
   | agg cs=>
     simp only[cY]at h
     obtain⟨a1,a2⟩:=list cs h
     exact⟨by simp only[frz,a1],by simp only[cY,a2]⟩
   | ref id ep n=>
     obtain⟨sz,pin,pin',ep',es,e1,e2⟩:=h id (by simp[cY])
     have:∀i∈es.flatMap (cY H k),∃sz pin pin' ep es,H[i]?=some (.arr sz pin ep es)∧H'[i]?=some (.arr sz pin' ep es):=fun i hi=>h i (by simp only[cY,e1];exact List.mem_cons_of_mem _ hi)
     obtain⟨a1,a2⟩:=list es this
     refine⟨?_,by simp only[cY,e1,e2,a2]⟩
     simp only[frz,dv,e1,e2]
     by_cases c:ep=ep'∧n=es.length
     · simp only[if_pos c,Option.bind_some,a1]
     · simp only[if_neg c,Option.bind_none]
   | sub id ep n lo hi=>
     obtain⟨sz,pin,pin',ep',es,e1,e2⟩:=h id (by simp[cY])
     have:∀i∈es.flatMap (cY H k),∃sz pin pin' ep es,H[i]?=some (.arr sz pin ep es)∧H'[i]?=some (.arr sz pin' ep es):=fun i hi=>h i (by simp only[cY,e1];exact List.mem_cons_of_mem _ hi)
     obtain⟨a1,a2⟩:=list es this
     have:∀i∈((es.drop lo).take (hi-lo)).flatMap (cY H k),∃sz pin pin' ep es,H[i]?=some (.arr sz pin ep es)∧H'[i]?=some (.arr sz pin' ep es):=fun i hi=>by
      obtain⟨e,he,hi⟩:=List.mem_flatMap.1 hi
      exact this i (List.mem_flatMap.2 ⟨e,List.mem_of_mem_drop (List.mem_of_mem_take he),hi⟩)
     obtain⟨b1,b2⟩:=list _ this
     refine⟨?_,by simp only[cY,e1,e2,a2]⟩
     simp only[frz,dv,e1,e2]
     by_cases c:ep=ep'∧n=es.length
     · simp only[if_pos c,Option.bind_some,b1]
     · simp only[if_neg c,Option.bind_none]
   | _=>exact⟨rfl,rfl⟩
section
variable {bm : bj} (hm : bm.ok) {t : Int} (i : Nat) {H : ab} {io iB iO n a fbi tl : Nat} {es : List D} {whr : List Wh} (e1 : H[iO]? = some (.box [.ref io 0 n])) (e2 : H[io]? = some (.arr 2 false 0 es)) (e3 : es.length = n)
 (e4:es[i]?=some (.agg [.ref a 0 tl,.ref fbi 0 whr.length])) (e5:H[fbi]?=some (.arr 2 false 0 (whs whr))) (e6:H[iB]?=some (.box (ag bm))) (hi:i<n) (hn:n≤1000000) (hl:whr.length≤1000000)
include hm e1 e2 e3 e4 e5 e6 hi hn hl
end
theorem Rp.app{H:ab}{id:Nat}{es:List D}{fa fb:Nat→Nat}{out:List World}(hr:Rp H id es fa fb out)(t:ab):Rp (H++t) id es fa fb out:=
 ⟨by rw[qz (uU hr.arr)];exact hr.arr,hr.len,hr.el,fun j hj=>by rw[qz (uU (hr.ha j hj))];exact hr.ha j hj,fun j hj=>by rw[qz (uU (hr.hb j hj))];exact hr.hb j hj,hr.na,hr.nb,hr.nab,hr.nbb⟩
structure SlH(H:ab)(b:List World)(bm:bj)(iB iO io:Nat)(es:List D)(fa fb:Nat→Nat)(A:List Nat)(O:List World):Prop where
 h1:H[1]?=some (.box [.ref 3 0 b.length])
 h2:H[2]?=some (.box [.nil])
 hB:H[iB]?=some (.box (ag bm))
 hO:H[iO]?=some (.box [.ref io 0 O.length])
 rp:Rp H io es fa fb O
 ar:∀i∈A,∃sz pin ep es,H[i]?=some (.arr sz pin ep es)
 nA:∀i∈A,∀j,j<O.length→i≠fb j
 eA:cY H 7 (.ref 3 0 b.length)=A
 fr:frz H 7 (.ref 3 0 b.length)=some (.sl (b.map World.e))
theorem SlH.step{H:ab}{b:List World}{bm:bj}{iB iO io:Nat}{es:List D}{fa fb:Nat→Nat}{A:List Nat}{O:List World}(h:SlH H b bm iB iO io es fa fb A O){i:Nat}(hi:i<O.length)(x:World)(ht:(nth O i).tags=x.tags)
 (hw:x.whr.length=(nth O i).whr.length) (o:Obj):SlH (H.set (fb i) (.arr 2 false 0 (whs x.whr))++[o]) b bm iB iO io es fa fb A (O.set i x):=by
 have hb:=h.rp.hb i hi
 have nb:∀ {k:Nat} {cs:List D},H[k]?=some (.box cs)→(H.set (fb i) (.arr 2 false 0 (whs x.whr))++[o])[k]?=some (.box cs):=fun{k cs} hk=>by
  have ne:fb i≠k:=fun e=>by rw[e,hk]at hb;cases hb
  rw[qz (by rw[List.length_set];exact uU hk),lB ne];exact hk
 have na:∀k∈A,(H.set (fb i) (.arr 2 false 0 (whs x.whr))++[o])[k]?=H[k]?:=fun k hk=>by
  obtain⟨sz,pin,ep,es',e⟩:=h.ar k hk
  rw[qz (by rw[List.length_set];exact uU e),lB (fun e=>h.nA k hk i hi e.symm)]
 have fc:=C8 (H:=H) (H':=H.set (fb i) (.arr 2 false 0 (whs x.whr))++[o]) 7 (.ref 3 0 b.length) (fun k hk=>by
  rw[h.eA]at hk
  obtain⟨sz,pin,ep,es',e⟩:=h.ar k hk
  exact⟨sz,pin,pin,ep,es',e,by rw[na k hk];exact e⟩)
 refine⟨nb h.h1,nb h.h2,nb h.hB,by rw[List.length_set];exact nb h.hO,(h.rp.merge hi x ht hw).app _,fun k hk=>?_,by rw[List.length_set];exact h.nA,by rw[fc.2];exact h.eA,by rw[fc.1];exact h.fr⟩
 obtain⟨sz,pin,ep,es',e⟩:=h.ar k hk
 exact⟨sz,pin,ep,es',by rw[na k hk];exact e⟩
end Go.Ev
namespace Go.Ev
open Go
variable [Lib] [bQ] [bC] [eE] [eB]
end Go.Ev
namespace Go.Ev
open Go
variable [Lib] [bQ] [bC] [eE] [eB] [gU] [dW] [dR] [fP] [ez] [dF] [df] [iF] [gK] [nH] [kT]
theorem AD(l:List Place)(hl:l.length≤1000000):bY 0 N.au [.t (.sl (l.map Place.e))] []=some (.t (.sl (l.map Place.e)),[]):=by
 refine aX K.cb rfl ?_
 by_cases h0:l=[]
 · subst h0
   simp only[List.map_nil]
   simp (disch:=omega) only[go_sem,K.au,↓reduceIte,List.map_nil,Nat.reduceAdd,Nat.reduceSub]
 · have e:=fun H=>y4 H (l.map Place.e) (by simpa using h0)
   simp (disch:=omega) only[go_sem,K.au,↓reduceIte,e,Nat.reduceAdd,Nat.reduceSub]
theorem AE(l:List Road)(hl:l.length≤1000000):bY 1 N.ay [.t (.sl (l.map Road.e))] []=some (.ref 0 0 l.length,[.arr 10 false 0 ((l.map Road.e).map .t)]):=by
 refine aX K.cB rfl ?_
 by_cases h0:l=[]
 · subst h0
   simp only[List.map_nil]
   simp (disch:=omega) only[go_sem,K.ay,↓reduceIte,List.map_nil,List.length_nil,Nat.reduceAdd,Nat.reduceSub]
 · have e:=fun H=>y4 H (l.map Road.e) (by simpa using h0)
   simp (disch:=omega) only[go_sem,K.ay,↓reduceIte,e,Nat.reduceAdd,Nat.reduceSub]
end Go.Ev
namespace Go.Ev
open Go
variable [Lib]
structure Edge where
 r:Nat
 a:Nat
 b:Nat
 t:Int
structure Lab where
 t:Int
 r:Int
 deriving DecidableEq
instance : Dat Edge := ⟨⟨0, 0, 0, 0⟩⟩
instance : Dat Lab := ⟨⟨0, 0⟩⟩
def kC(x y:Lab):Bool:=decide (x.t<y.t)||(decide (x.t=y.t)&&decide (x.r<y.r))
theorem j5{x y:Lab}:kC x y=true↔x.t<y.t∨x.t=y.t∧x.r<y.r:=by
 simp[kC]
theorem uX{x y:Lab}:kC x y=false↔¬(x.t<y.t∨x.t=y.t∧x.r<y.r):=by
 rw[← j5,Bool.not_eq_true]
def lL(L:List Lab)(e:Edge):Lab:=⟨(nth L e.b).t+e.t,(nth L e.b).r+1⟩
def AF(F:Int)(u:Edge→Bool)(L:List Lab)(e:Edge):Bool:=u e&&decide ((nth L e.b).t<F)&&kC (lL L e) (nth L e.a)
def Ei(F:Int)(u:Edge→Bool)(L:List Lab)(e:Edge):List Lab:=if AF F u L e then L.set e.a (lL L e)else L
def pZ(F:Int)(u:Edge→Bool)(E:List Edge)(L:List Lab)(c:Bool):Nat→List Lab×Bool
 | 0=>(L,c)
 | j+1=>(Ei F u (pZ F u E L c j).1 (nth E j),(pZ F u E L c j).2||AF F u (pZ F u E L c j).1 (nth E j))
structure AG(F:Int)(n:Nat)(L:List Lab):Prop where
 l:L.length=n
 t0:∀p,p<n→0≤(nth L p).t
 t1:∀p,p<n→(nth L p).t≤F
 r0:∀p,p<n→0≤(nth L p).r
 r1:∀p,p<n→(nth L p).r≤(nth L p).t
def Edge.ok(n:Nat)(e:Edge):Prop:=e.a<n∧e.b<n∧1≤e.t∧e.t≤1000000
def wL(F:Int)(x:Lab):Nat:=(x.t*(F+1)+x.r).toNat
def FQ(F:Int)(L:List Lab):Nat:=(L.map (wL F)).sum
theorem C9(f:Lab→Nat):∀(L:List Lab) (i:Nat) (x:Lab),i<L.length→f x<f (nth L i)→((L.set i x).map f).sum<(L.map f).sum
 | [],i,x,h,_=>absurd h (by simp)
 | y::L,0,x,_,h=>by
   simp only[List.set_cons_zero,List.map_cons,List.sum_cons]
   have:nth (y::L) 0=y:=rfl
   rw[this]at h
   omega
 | y::L,i+1,x,h,h2=>by
   simp only[List.set_cons_succ,List.map_cons,List.sum_cons]
   have e:nth (y::L) (i+1)=nth L i:=rfl
   rw[e]at h2
   have:=C9 f L i x (by simpa using h) h2
   omega
theorem kD{L:List Lab}{i j:Nat}{a:Lab}(h:j≠i):nth (L.set j a) i=nth L i:=by
 unfold nth
 simp only[List.getD_eq_getElem?_getD,List.getElem?_set_ne h]
theorem nJ{L:List Lab}{i:Nat}{a:Lab}(h:i<L.length):nth (L.set i a) i=a:=m6 (List.getElem?_set_self h)
theorem XX{F:Int}{x y:Lab}(h:kC x y=true)(h0:0≤x.t)(h1:x.t≤F)(h2:0≤x.r)(h3:x.r≤x.t)(h4:0≤y.r):wL F x<wL F y:=by
 unfold wL
 rw[j5]at h
 have p0:0≤x.t*(F+1):=Int.mul_nonneg h0 (by omega)
 have key:x.t*(F+1)+x.r<y.t*(F+1)+y.r:=by
  rcases h with h | ⟨h,h'⟩
  · have:(x.t+1)*(F+1)≤y.t*(F+1):=Int.mul_le_mul_of_nonneg_right (by omega) (by omega)
    rw[Int.add_mul]at this
    omega
  · rw[h];omega
 omega
theorem HP{F:Int}{n:Nat}{u:Edge→Bool}{L:List Lab}(h:AG F n L){e:Edge}(he:e.ok n):AG F n (Ei F u L e)∧(AF F u L e=true→FQ F (Ei F u L e)<FQ F L):=by
 unfold Ei
 cases hc:AF F u L e with
 | false=>exact⟨by simpa using h,by simp⟩
 | true=>
   simp only[if_true]
   unfold AF at hc
   simp only[Bool.and_eq_true,decide_eq_true_eq]at hc
   obtain⟨⟨-,c2⟩,c3⟩:=hc
   obtain⟨ha,hb,ht,ht2⟩:=he
   have q:=c3
   rw[j5]at q
   have b0:=h.t0 _ hb
   have b1:=h.r0 _ hb
   have b2:=h.r1 _ hb
   have a1:=h.t1 _ ha
   have a0:=h.r0 _ ha
   have ct:(lL L e).t=(nth L e.b).t+e.t:=rfl
   have cr:(lL L e).r=(nth L e.b).r+1:=rfl
   refine⟨⟨by rw[List.length_set];exact h.l,?_,?_,?_,?_⟩,fun _=>C9 (wL F) L e.a _ (by rw[h.l];exact ha) (XX c3 (by omega) (by omega) (by omega) (by omega) a0)⟩
   all_goals
    intro p hp
    by_cases c:p=e.a
    · subst c
      rw[nJ (by rw[h.l];exact ha)]
      omega
    · rw[kD (fun h=>c h.symm)]
      first | exact h.t0 p hp | exact h.t1 p hp | exact h.r0 p hp | exact h.r1 p hp
theorem ui{F:Int}{n:Nat}{u:Edge→Bool}{E:List Edge}(hE:∀e∈E,e.ok n){L:List Lab}(h:AG F n L):∀j,j≤E.length→AG F n (pZ F u E L false j).1∧FQ F (pZ F u E L false j).1≤FQ F L∧
 ((pZ F u E L false j).2=true→FQ F (pZ F u E L false j).1<FQ F L)∧((pZ F u E L false j).2=false→(pZ F u E L false j).1=L∧∀i,i<j→AF F u L (nth E i)=false)
 | 0,_=>⟨h,Nat.le_refl _,by simp[pZ],fun _=>⟨rfl,fun i hi=>absurd hi (Nat.not_lt_zero _)⟩⟩
 | j+1,hj=>by
   obtain⟨a,b,c,d⟩:=ui hE h j (by omega)
   have eo:=hE _ (b9 (show j<E.length by omega))
   obtain⟨f,g⟩:=HP (u:=u) a eo
   simp only[pZ]
   cases hc:AF F u (pZ F u E L false j).1 (nth E j)with
   | true=>
     have:=g hc
     refine⟨f,by omega,fun _=>by omega,by simp⟩
   | false=>
     have e:Ei F u (pZ F u E L false j).1 (nth E j)=(pZ F u E L false j).1:=by unfold Ei;rw[hc];rfl
     rw[e,Bool.or_false]
     refine⟨a,b,c,fun h2=>?_⟩
     obtain⟨d1,d2⟩:=d h2
     refine⟨d1,fun i hi=>?_⟩
     by_cases ci:i=j
     · rw[ci,←d1];exact hc
     · exact d2 i (by omega)
structure HQ(F:Int)(n:Nat)(E:List Edge)(u:Edge→Bool)(Z:Nat→Bool)(L:List Lab):Prop extends AG F n L where
 z:∀p,p<n→Z p=true→nth L p=⟨0,0⟩
 w:∀p,p<n→(nth L p).t<F→Z p=true∨∃e∈E,u e=true∧e.a=p∧(nth L e.b).t<F∧kC (nth L p) (lL L e)=false
theorem Sl{F:Int}{n:Nat}{u:Edge→Bool}{E:List Edge}{Z:Nat→Bool}(hE:∀e∈E,e.ok n)(hz:∀e∈E,u e=true→Z e.a=false){L:List Lab}(h:HQ F n E u Z L){e:Edge}(he:e∈E):HQ F n E u Z (Ei F u L e):=by
 have I:=(HP (u:=u) h.toAG (hE e he)).1
 refine⟨I,?_,?_⟩
 all_goals unfold Ei at I ⊢
 all_goals cases hc:AF F u L e with
  | false=>
    simp only[Bool.false_eq_true,if_false]
    first | exact h.z | exact h.w
  | true=>
    rw[hc]at I
    simp only[if_true]at I ⊢
    unfold AF at hc
    simp only[Bool.and_eq_true,decide_eq_true_eq]at hc
    obtain⟨⟨c1,c2⟩,c3⟩:=hc
    obtain⟨ha,hb,ht,ht2⟩:=hE e he
    have ll:=h.l
    intro p hp
    rw[j5]at c3
    have ct:(lL L e).t=(nth L e.b).t+e.t:=rfl
    have cr:(lL L e).r=(nth L e.b).r+1:=rfl
    first
    | intro hZ
      by_cases c:p=e.a
      · subst c;rw[hz e he c1]at hZ;cases hZ
      · rw[kD (fun h=>c h.symm)];exact h.z p hp hZ
    | intro hF
      have dec:∀q,q<n→(nth (L.set e.a (lL L e)) q).t≤(nth L q).t∧((nth (L.set e.a (lL L e)) q).t=(nth L q).t→(nth (L.set e.a (lL L e)) q).r≤(nth L q).r):=by
       intro q hq
       by_cases c:q=e.a
       · subst c
         rw[nJ (by omega)]
         refine⟨by omega,fun h=>by omega⟩
       · rw[kD (fun h=>c h.symm)];exact⟨Int.le_refl _,fun _=>Int.le_refl _⟩
      have cand:∀f:Edge,f.b<n→kC (lL L f) (lL (L.set e.a (lL L e)) f)=false:=by
       intro f hf
       have:=dec f.b hf
       rw[uX]
       unfold lL at*
       simp only at*
       omega
      have ne:e.b≠e.a∨e.b=e.a:=by omega
      by_cases c:p=e.a
      · right
        subst c
        have hF':=hF
        rw[nJ (by omega)]at hF' ⊢
        have db:=dec e.b hb
        refine⟨e,he,c1,rfl,by omega,?_⟩
        have:=cand e hb
        exact this
      · rw[kD (fun h=>c h.symm)]at hF ⊢
        rcases h.w p hp hF with h1 | ⟨f,hf,f1,f2,f3,f4⟩
        · exact .inl h1
        · right
          have fb:=(hE f hf).2.1
          have db:=dec f.b fb
          have cf:=cand f fb
          refine⟨f,hf,f1,f2,by omega,?_⟩
          rw[uX]at f4 cf ⊢
          omega
theorem Da{F:Int}{n:Nat}{u:Edge→Bool}{E:List Edge}{Z:Nat→Bool}(hE:∀e∈E,e.ok n)(hz:∀e∈E,u e=true→Z e.a=false){L:List Lab}(h:HQ F n E u Z L)(c:Bool):∀j,j≤E.length→HQ F n E u Z (pZ F u E L c j).1
 | 0,_=>h
 | j+1,hj=>Sl hE hz (Da hE hz h c j (by omega)) (b9 (by omega))
theorem uj{α:Type}(f:α→α×Bool)(mes:α→Nat)(P Q:α→Prop)(h1:∀l,P l→P (f l).1∧((f l).2=true→mes (f l).1<mes l))(h2:∀l,P l→(f l).2=false→Q (f l).1):∀(k:Nat) (l:α),P l→mes l<k→Q (jl f k l)
 | 0,l,_,h=>absurd h (Nat.not_lt_zero _)
 | k+1,l,hp,hm=>by
   obtain⟨a,b⟩:=h1 l hp
   unfold jl
   cases hc:(f l).2 with
   | true=>simp only[if_true];exact uj f mes P Q h1 h2 k _ a (by have:=b hc;omega)
   | false=>simp only[Bool.false_eq_true,if_false];exact h2 l hp hc
structure FR(F:Int)(n:Nat)(E:List Edge)(u:Edge→Bool)(Z:Nat→Bool)(L:List Lab):Prop extends HQ F n E u Z L where
 fx:∀e∈E,AF F u L e=false
def Db(F:Int)(u:Edge→Bool)(E:List Edge)(L:List Lab):List Lab:=jl (fun L=>pZ F u E L false E.length) (FQ F L+1) L
theorem FT{F:Int}{n:Nat}{u:Edge→Bool}{E:List Edge}{Z:Nat→Bool}(hE:∀e∈E,e.ok n)(hz:∀e∈E,u e=true→Z e.a=false){L:List Lab}(h:HQ F n E u Z L):FR F n E u Z (Db F u E L):=by
 refine uj _ (FQ F) (HQ F n E u Z) _ (fun l hl=>⟨Da hE hz hl _ _ (Nat.le_refl _),(ui hE hl.toAG _ (Nat.le_refl _)).2.2.1⟩) (fun l hl hc=>?_) _ _ h (Nat.lt_succ_self _)
 obtain⟨-, -, -,d⟩:=ui (u:=u) hE hl.toAG _ (Nat.le_refl _)
 obtain⟨d1,d2⟩:=d hc
 refine⟨Da hE hz hl _ _ (Nat.le_refl _),fun e he=>?_⟩
 obtain⟨i,hi,rfl⟩:=List.getElem_of_mem he
 have:=d2 i hi
 rw[m6 (List.getElem?_eq_getElem hi)]at this
 rw[d1]
 exact this
theorem FR.eqn{F:Int}{n:Nat}{E:List Edge}{u:Edge→Bool}{Z:Nat→Bool}{L:List Lab}(h:FR F n E u Z L)(hE:∀e∈E,e.ok n){p:Nat}(hp:p<n)(hf:(nth L p).t<F)(hz:Z p=false):∃e∈E,u e=true∧e.a=p∧(nth L e.b).t<F∧nth L p=lL L e:=by
 rcases h.w p hp hf with h1 | ⟨e,he,e1,e2,e3,e4⟩
 · rw[hz]at h1;cases h1
 · refine⟨e,he,e1,e2,e3,?_⟩
   have fx:=h.fx e he
   unfold AF at fx
   rw[e1,decide_eq_true e3,e2]at fx
   simp only[Bool.true_and]at fx
   rw[uX]at fx e4
   have:∀x y:Lab,x.t=y.t→x.r=y.r→x=y:=fun x y a b=>by
    cases x;cases y;simp only at a b;rw[a,b]
   exact this _ _ (by omega) (by omega)
theorem Dc{p q:Nat→Bool}(h:∀x,p x=true→q x=true){l:List Nat}{x:Nat}(hx:x∈l)(h1:q x=true)(h2:p x=false):l.countP p<l.countP q:=by
 have le:∀l:List Nat,l.countP p≤l.countP q:=fun l=>List.countP_mono_left (fun x _ hp=>h x hp)
 induction l with
 | nil=>cases hx
 | cons a l ih=>
   rw[List.countP_cons,List.countP_cons]
   have:=le l
   rcases List.mem_cons.1 hx with rfl | hx
   · rw[h1,h2];simp;omega
   · have:=ih hx
     cases hp:p a with
     | true=>rw[h a hp];simp;omega
     | false=>simp;omega
theorem FR.time{F:Int}{n:Nat}{E:List Edge}{u:Edge→Bool}{Z:Nat→Bool}{L:List Lab}(h:FR F n E u Z L)(hE:∀e∈E,e.ok n){p:Nat}(hp:p<n)(hf:(nth L p).t<F):(nth L p).t≤(n:Int)*1000000:=by
 have key:∀(k:Nat) (p:Nat),p<n→(nth L p).t.toNat=k→(nth L p).t<F→(nth L p).t≤((List.range n).countP (fun x=>kC (nth L x) (nth L p)):Int)*1000000:=by
  intro k
  induction k using Nat.strongRecOn with
  | ind k ih=>
    intro p hp hk hf
    by_cases hz:Z p=true
    · rw[h.z p hp hz]
      have:0≤((List.range n).countP (fun x=>kC (nth L x) ⟨0,0⟩):Int)*1000000:=Int.mul_nonneg (Int.natCast_nonneg _) (by omega)
      exact this
    · obtain⟨e,he,e1,e2,e3,e4⟩:=h.eqn hE hp hf (by simpa using hz)
      obtain⟨o1,o2,o3,o4⟩:=hE e he
      have ct:(nth L p).t=(nth L e.b).t+e.t:=by rw[e4];rfl
      have cr:(nth L p).r=(nth L e.b).r+1:=by rw[e4];rfl
      have b0:=h.t0 _ o2
      have:=ih (nth L e.b).t.toNat (by omega) e.b o2 rfl e3
      have lt:(List.range n).countP (fun x=>kC (nth L x) (nth L e.b))<(List.range n).countP (fun x=>kC (nth L x) (nth L p)):=by
       refine Dc (fun x hx=>?_) (List.mem_range.2 o2) ?_ ?_
       · rw[j5]at hx ⊢;omega
       · rw[j5];omega
       · rw[uX];omega
      generalize (List.range n).countP (fun x=>kC (nth L x) (nth L e.b))=c1 at*
      generalize (List.range n).countP (fun x=>kC (nth L x) (nth L p))=c2 at*
      omega
 have a:=key _ p hp rfl hf
 have b:(List.range n).countP (fun x=>kC (nth L x) (nth L p))≤n:=by
  have:=List.countP_le_length (p:=fun x=>kC (nth L x) (nth L p)) (l:=List.range n)
  simpa using this
 generalize (List.range n).countP (fun x=>kC (nth L x) (nth L p))=c at*
 omega
def pb(u:Edge→Bool)(L:List Lab)(at':Nat)(e:Edge):Bool:=decide (e.a=at')&&u e&&decide (nth L e.b=⟨(nth L at').t-e.t,(nth L at').r-1⟩)
def Dd(u:Edge→Bool)(E:List Edge)(L:List Lab)(at':Nat):Option Edge:=E.find? (pb u L at')
def jD(Z:Nat→Bool)(u:Edge→Bool)(E:List Edge)(L:List Lab):Nat→Nat→List Edge
 | 0,_=>[]
 | k+1,p=>if Z p then []else match Dd u E L p with
   | some e=>e::jD Z u E L k e.b
   | none=>[]
def HR:Nat→List Edge→Prop
 | _,[]=>True
 | p,e::l=>e.a=p∧HR e.b l
def Ze:Nat→List Edge→Nat
 | p,[]=>p
 | _,e::l=>Ze e.b l
theorem mu{F:Int}{n:Nat}{E:List Edge}{u:Edge→Bool}{Z:Nat→Bool}{L:List Lab}(h:FR F n E u Z L)(hE:∀e∈E,e.ok n){p:Nat}(hp:p<n)(hf:(nth L p).t<F)(hz:Z p=false):
 ∃e,Dd u E L p=some e∧e∈E∧u e=true∧e.a=p∧(nth L e.b).t<F∧(nth L e.b).t=(nth L p).t-e.t∧(nth L e.b).r=(nth L p).r-1:=by
 obtain⟨e,he,e1,e2,e3,e4⟩:=h.eqn hE hp hf hz
 have hs:pb u L p e=true:=by
  unfold pb
  rw[e1,e2,decide_eq_true rfl]
  have:nth L e.b=⟨(nth L p).t-e.t,(nth L p).r-1⟩:=by
   rw[e4]
   unfold lL
   simp only[Int.add_sub_cancel]
  rw[decide_eq_true this]
  rfl
 cases hc:Dd u E L p with
 | none=>
   have:=List.find?_eq_none.1 hc e he
   exact absurd hs this
 | some f=>
   have f1:=List.mem_of_find?_eq_some hc
   have f2:=List.find?_some hc
   unfold pb at f2
   simp only[Bool.and_eq_true,decide_eq_true_eq]at f2
   obtain⟨⟨f3,f4⟩,f5⟩:=f2
   have ft:=(hE f f1).2.2.1
   refine⟨f,rfl,f1,f4,f3,?_,by rw[f5],by rw[f5]⟩
   rw[f5]
   simp only
   omega
structure HT(F:Int)(n:Nat)(E:List Edge)(u:Edge→Bool)(Z:Nat→Bool)(L:List Lab)(p:Nat)(l:List Edge):Prop where
 mem:∀e∈l,e∈E∧u e=true∧e.b<n
 chain:HR p l
 fin:Z (Ze p l)=true
 sum:(l.map Edge.t).sum=(nth L p).t
 low:∀e∈l,(nth L e.b).r<(nth L p).r
 dis:(l.map Edge.b).Nodup
theorem De{F:Int}{n:Nat}{E:List Edge}{u:Edge→Bool}{Z:Nat→Bool}{L:List Lab}(h:FR F n E u Z L)(hE:∀e∈E,e.ok n):∀(k p:Nat),p<n→(nth L p).t<F→(nth L p).r.toNat≤k→HT F n E u Z L p (jD Z u E L k p)
 | 0,p,hp,hf,hk=>by
   have r0:=h.r0 p hp
   by_cases hz:Z p=true
   · refine⟨by simp[jD],trivial,hz,?_,by simp[jD],by simp[jD]⟩
     rw[h.z p hp hz];rfl
   · obtain⟨e,_,e1,_,_,_,_,e5⟩:=mu h hE hp hf (by simpa using hz)
     have:=h.r0 e.b (hE e e1).2.1
     omega
 | k+1,p,hp,hf,hk=>by
   unfold jD
   by_cases hz:Z p=true
   · rw[if_pos hz]
     refine⟨by simp,trivial,hz,?_,by simp,by simp⟩
     rw[h.z p hp hz];rfl
   · rw[if_neg hz]
     obtain⟨e,e0,e1,e2,e3,e4,e5,e6⟩:=mu h hE hp hf (by simpa using hz)
     have eb:=(hE e e1).2.1
     have br:=h.r0 e.b eb
     have i:=De h hE k e.b eb e4 (by omega)
     rw[e0]
     simp only
     refine⟨?_,⟨e3,i.chain⟩,i.fin,?_,?_,?_⟩
     · intro f hf'
       rcases List.mem_cons.1 hf' with rfl | hf'
       · exact⟨e1,e2,eb⟩
       · exact i.mem f hf'
     · rw[List.map_cons,List.sum_cons,i.sum];omega
     · intro f hf'
       rcases List.mem_cons.1 hf' with rfl | hf'
       · omega
       · have:=i.low f hf';omega
     · rw[List.map_cons,List.nodup_cons]
       refine⟨fun hm=>?_,i.dis⟩
       obtain⟨f,f1,f2⟩:=List.mem_map.1 hm
       have:=i.low f f1
       rw[f2]at this
       omega
end Go.Ev
namespace Go.Ev.N
def AH:Nat:=334
def Bl:Nat:=335
def Bm:Nat:=336
def Lu:Nat:=337
def AI:Nat:=338
def Lv:Nat:=339
def Lw:Nat:=340
def Ow:Nat:=341
def Lx:Nat:=342
def Ox:Nat:=343
def Oy:Nat:=344
def U1:Nat:=345
def Ej:Nat:=346
def Lz:Nat:=347
def Oz:Nat:=348
def OA:Nat:=349
def Df:Nat:=350
def FU:Nat:=351
def HU:Nat:=352
def HV:Nat:=353
def LA:Nat:=354
def Ek:Nat:=355
def OB:Nat:=356
def OC:Nat:=357
def FV:Nat:=358
def HW:Nat:=359
def LB:Nat:=360
def OD:Nat:=361
def LC:Nat:=362
def FW:Nat:=363
def LD:Nat:=364
def OE:Nat:=365
def OF:Nat:=366
def OH:Nat:=367
def OI:Nat:=368
def AJ:Nat:=369
def jE:Nat:=370
def nX:Nat:=371
def FX:Nat:=372
def kU:Nat:=373
def FY:Nat:=374
def FZ:Nat:=375
def LF:Nat:=376
def LG:Nat:=377
def El:Nat:=378
def kc:Nat:=379
def mw:Nat:=380
def Dg:Nat:=381
def F3:Nat:=382
def Dh:Nat:=383
end Go.Ev.N
namespace Go.Ev.N
def F4:Nat:=384
def Em:Nat:=385
def Di:Nat:=386
def En:Nat:=387
def Dj:Nat:=388
def LH:Nat:=389
def LI:Nat:=390
def OJ:Nat:=391
def Bo:Nat:=392
def LJ:Nat:=393
def LK:Nat:=394
def Bp:Nat:=395
def OK:Nat:=396
def Bq:Nat:=397
def AK:Nat:=398
def Sm:Nat:=399
def OL:Nat:=400
def OM:Nat:=401
def Dk:Nat:=402
def ON:Nat:=403
def Sn:Nat:=404
def OO:Nat:=405
def OP:Nat:=406
def Sp:Nat:=407
def zB:Nat:=408
def zC:Nat:=409
def OQ:Nat:=410
def Sq:Nat:=411
def HX:Nat:=412
def vv:Nat:=413
def Sr:Nat:=414
def uk:Nat:=415
end Go.Ev.N
namespace Go.Ev.N
def wR:Nat:=416
def aO:Nat:=417
def xj:Nat:=418
def wS:Nat:=419
def dG:Nat:=420
def bM:Nat:=421
def bO:Nat:=422
def HY:Nat:=423
def aI:Nat:=424
def bk:Nat:=425
def LL:Nat:=426
def Br:Nat:=427
def bS:Nat:=428
def cA:Nat:=429
def aK:Nat:=430
def bG:Nat:=431
def Ss:Nat:=432
def Su:Nat:=433
def OR:Nat:=434
def aQ:Nat:=435
def dg:Nat:=436
def aR:Nat:=437
def bH:Nat:=438
def LM:Nat:=439
def LN:Nat:=440
def HZ:Nat:=441
def LO:Nat:=442
def eR:Nat:=443
def bT:Nat:=444
def OS:Nat:=445
def F5:Nat:=446
def OT:Nat:=447
def LP:Nat:=448
def OU:Nat:=449
def LQ:Nat:=450
def eC:Nat:=451
def gM:Nat:=452
def Sv:Nat:=453
def bh:Nat:=454
def bc:Nat:=455
def H3:Nat:=456
def Sw:Nat:=457
def ee:Nat:=458
def dA:Nat:=459
def aV:Nat:=460
def aj:Nat:=461
def bP:Nat:=462
def dM:Nat:=463
def bI:Nat:=464
def H4:Nat:=465
def bq:Nat:=466
def ae:Nat:=467
def ao:Nat:=468
def aY:Nat:=469
def fD:Nat:=470
def ch:Nat:=471
end Go.Ev.N
namespace Go.Ev.K
open Go.Ev
def bD:C:=(.seq (.ite [m v5,f 1 v3,g l0,u (.ln l0),u (.bin .lss l3 l0)] [] 0 .skip (.exit 0)) (.seq (.blk 1 (.ite [f 1 v3,g l0,m v5,a 10 l1 l0,f 5 l0,g l0,u (.un .not l0),m l0,y 0 true (.mv v2),y 1 true (.ca N.aW 0 [] [.l 0,.i 3]),u (.pk l2 l0 (.b false))] [] 0 (.reg [m v4,m v5,u (.bs [.l 0] 1),u (.app l2 l0 true 1),w 4 (.mv l0)] []) .skip)) (.reg [m v5,u (.bin .add l0 (.i 1)),w 5 (.mv l0)] [])))
def dX:C:= .loop true [0,1,6,7,8,9,10,11,12] K.bD
def aO:Fn:={ nargs:=1,vars:=[0,2,3,4,5,6,7,8,9,10,11,12,13],body:=(.seq (.reg [w 1 (.mv (.b false))] []) (.seq (.ite [m v0,u (.ca N.ec 0 [] [.l 0]),u (.un .not l0)] [] 0 (.seq (.reg [u (.ca N.dG 0 [] []),w 1 (.mv l0)] []) .ret) .skip) (.seq (.reg [m v0,u (.ca N.fA 0 [] [.l 0]),w 2 (.mv l0)] []) (.seq (.reg [m v2,u (.ca N.bL 0 [] [.l 0]),w 3 (.al [.nil,.nil] []),u (.st l0 l1 2 [])] []) (.seq (.reg [w 4 (.nw 1)] []) (.seq (.seq (.reg [w 5 (.mv (.i 0))] []) (.blk 0 K.dX)) (.seq (.reg [h 2 v3,m v4,u (.ca N.aI 0 [] [.l 1,.l 0,.c (.nil)]),m l0,u (.ex l0 0),u (.ex l1 1),w 6 (.al [.nil,.nil] []),u (.st l0 l2 2 []),w 7 (.mv l2)] []) (.seq (.reg [h 2 v6,m v4,u (.ca N.aI 0 [] [.l 1,.c (.nil),.l 0]),m l0,u (.ex l0 0),u (.ex l1 1),w 8 (.al [.nil,.nil] []),u (.st l0 l2 2 []),w 9 (.mv l2)] []) (.seq (.reg [h 2 v3,u (.ca N.aI 0 [] [.l 0,.c (.nil),.c (.nil)]),m l0,u (.ex l0 0),u (.ex l1 1),w 10 (.al [.nil,.nil] []),u (.st l0 l2 2 []),w 11 (.mv l2)] []) (.seq (.reg [m v2,h 2 v3,u (.ca N.bM 0 [] [.l 1,.l 0]),w 12 (.al [.nil,.nil,.nil,.t (.int .i64 (0))] []),u (.st l0 l1 4 [])] []) (.seq (.reg [u (.ca N.dG 0 [] []),m l0,y 0 true (.mv v7),y 1 true (.bin .eql l0 (.i 0)),u (.pk l2 l0 (.b false)),m l0,y 0 true (.mv v9),y 1 true (.bin .eql l0 (.i 0)),u (.pk l2 l0 (.b false)),m l0,y 0 true (.mv v11),y 1 true (.bin .eql l0 (.i 0)),u (.pk l2 l0 (.b false)),m l0,y 0 true (.ld v8 2 true),y 1 true (.ld v3 2 true),y 2 true (.ca N.bV 0 [] [.l 1,.l 0]),u (.pk l3 l0 (.b false)),m l0,y 0 true (.ld v10 2 true),y 1 true (.ld v3 2 true),y 2 true (.ca N.bV 0 [] [.l 1,.l 0]),u (.pk l3 l0 (.b false)),m l0,y 0 true (.ld v3 2 true),y 1 true (.ld v3 2 true),y 2 true (.ld v12 4 true),y 3 true (.ca N.bk 0 [] [.l 2,.l 1,.l 0]),y 4 true (.ln l0),y 5 true (.bin .eql l0 (.i 0)),u (.pk l6 l0 (.b false)),w 1 (.mv l0)] []) .ret))))))))))),res:=[(1,none)]}
def dG:Fn:={ nargs:=0,vars:=[0,1,2,3,4,5,7,9,10,11,12,13],body:=(.seq (.reg [w 0 (.mv (.b false))] []) (.seq (.reg [u (.bd [.t (.int .i64 (0)),.t (.int .i64 (0))] [(0,1,.i 1),(1,1,.i 1)]),u (.bd [.t (.int .i64 (0)),.t (.int .i64 (0)),.t (.int .i64 (0)),.t (.int .i64 (0)),.t (.bool false),.t (.bool false),.t (.int .i64 (0)),.t (.int .i64 (0)),.t (.int .i64 (0)),.t (.int .i64 (0))] [(2,1,.i 12),(3,1,.i 1),(4,1,.b true),(6,2,.l 0)]),w 1 (.al [.t (.int .i64 (0)),.t (.int .i64 (0)),.t (.int .i64 (0)),.t (.int .i64 (0)),.t (.bool false),.t (.bool false),.t (.int .i64 (0)),.t (.int .i64 (0)),.t (.int .i64 (0)),.t (.int .i64 (0))] []),u (.st l0 l1 10 [])] []) (.seq (.reg [w 2 (.al [.t (.int .i64 (0)),.t (.int .i64 (0)),.t (.int .i64 (0)),.t (.int .i64 (0)),.t (.bool false),.t (.bool false),.t (.int .i64 (0)),.t (.int .i64 (0)),.t (.int .i64 (0)),.t (.int .i64 (0))] []),w 3 (.al [.t (.int .i64 (0)),.t (.int .i64 (0)),.t (.int .i64 (0)),.t (.int .i64 (0)),.t (.bool false),.t (.bool false),.t (.int .i64 (0)),.t (.int .i64 (0)),.t (.int .i64 (0)),.t (.int .i64 (0))] []),h 10 v1,h 10 v1,u (.st l3 l1 10 []),u (.st l3 l1 10 [])] [(3,5)]) (.seq (.reg [f 1 v2,u (.st l0 (.i 1) 1 []),f 0 v3,u (.st l0 (.i 1) 1 []),f 1 v3,u (.st l0 (.i 2) 1 [])] []) (.seq (.reg [u (.bd [.t (.int .i64 (0)),.t (.bool false)] [(1,1,.b true)]),u (.bd [.t (.int .i64 (0)),.t (.bool false)] []),u (.bd [.t (.int .i64 (0)),.t (.bool false)] [(1,1,.b true)]),u (.bs [.l 2,.l 1,.l 0] 2),h 10 v2,h 10 v3,u (.bs [.l 1,.l 0] 10),u (.bd [.nil,.nil] [(0,1,.l 3),(1,1,.l 0)]),w 4 (.al [.nil,.nil] []),u (.st l0 l1 2 [])] []) (.seq (.reg [h 2 v4,u (.bs [.i 4] 1),u (.bs [.i 1] 1),u (.ca N.eH 0 [] [.l 2,.l 1,.l 0,.i 0]),m l0,u (.ex l0 0),u (.ex l1 1),w 5 (.al [.nil] []),u (.st l0 l2 1 []),m l2] []) (.seq (.reg [u (.bd [.nil,.nil,.nil,.t (.int .i64 (0))] [(3,1,.i 1000)]),w 6 (.al [.nil,.nil,.nil,.t (.int .i64 (0))] []),u (.st l0 l1 4 [])] []) (.seq (.reg [h 2 v4,h 4 v6,h 1 v5,u (.bs [.i 1] 1),u (.ca N.bO 0 [] [.l 3,.l 2,.l 1,.l 0,.c (.nil),.c (.nil),.i 5,.i 0]),m l0,u (.ex l0 0),u (.ex l1 1),u (.ex l2 2),u (.al [.nil,.nil] []),u (.st l0 l3 2 []),w 7 (.mv l3),w 8 (.mv l3)] []) (.seq (.reg [h 2 v4,h 4 v6,h 1 v5,u (.bs [.i 1] 1),u (.bs [.i 1] 1),u (.ca N.bO 0 [] [.l 4,.l 3,.l 2,.l 1,.c (.nil),.l 0,.i 5,.i 0]),m l0,u (.ex l0 0),u (.ex l1 1),u (.ex l2 2),w 9 (.al [.nil,.nil] []),u (.st l0 l3 2 []),w 10 (.mv l3),w 11 (.mv l3)] []) (.seq (.reg [m v8,u (.bin .eql l0 (.i 46)),m l0,y 0 true (.mv v7),y 1 true (.ln l0),y 2 true (.bin .eql l0 (.i 1)),u (.pk l3 l0 (.b false)),m l0,y 0 true (.mv v7),y 1 true (.ia l0 (.i 0) 1),y 2 true (.ld l0 1 false),y 3 true (.bin .eql l0 (.i 1)),u (.pk l4 l0 (.b false)),m l0,y 0 true (.mv v11),y 1 true (.bin .eql l0 (.i 0)),u (.pk l2 l0 (.b false)),m l0,y 0 true (.mv v10),y 1 true (.ln l0),y 2 true (.bin .eql l0 (.i 1)),u (.pk l3 l0 (.b false)),m l0,y 0 true (.fa v9 1),y 1 true (.ld l0 1 false),y 2 true (.ln l0),y 3 true (.bin .eql l0 (.i 2)),u (.pk l4 l0 (.b false)),m l0,y 0 true (.fa v9 1),y 1 true (.ld l0 1 false),y 2 true (.ia l0 (.i 1) 10),y 3 true (.fa l0 5),y 4 true (.ld l0 1 false),u (.pk l5 l0 (.b false)),m l0,y 0 true (.ld v4 2 true),y 1 true (.ld v9 2 true),y 2 true (.ld v6 4 true),y 3 true (.ca N.bk 0 [] [.l 2,.l 1,.l 0]),y 4 true (.ln l0),y 5 true (.bin .eql l0 (.i 1)),u (.pk l6 l0 (.b false)),w 0 (.mv l0)] []) .ret)))))))))),res:=[(0,none)]}
def bM:Fn:={ nargs:=2,vars:=[0,1,3,4,5],body:=(.seq (.reg [w 2 (.bx v1 2),w 3 (.al [.nil,.nil,.nil,.t (.int .i64 (0))] [])] []) (.seq (.reg [m v0,u (.bs [.i 600,.i 100,.i 60,.i 1000,.i 0] 1),u (.ca N.bu 0 [] [.l 1,.l 0]),u (.bd [.nil,.nil,.nil,.t (.int .i64 (0))] [(3,1,.l 0)]),w 4 (.al [.nil,.nil,.nil,.t (.int .i64 (0))] []),u (.st l0 l1 4 [])] []) (.seq (.ite [m v0,u (.ca N.aW 0 [] [.l 0,.i 3])] [] 0 (.reg [m v0,f 0 v2,g l0,u (.ln l0),u (.ca N.aD 0 [] [.l 3,.l 0]),u (.bs [.l 0] 1),f 0 v4,u (.st l0 l1 1 [])] []) .skip) (.seq (.ite [m v0,u (.ca N.aW 0 [] [.l 0,.i 4])] [] 0 (.reg [m v0,f 0 v2,g l0,u (.ln l0),u (.ca N.aD 0 [] [.l 3,.l 0]),u (.bs [.l 0] 1),f 1 v4,u (.st l0 l1 1 [])] []) .skip) (.seq (.ite [m v0,u (.ca N.aW 0 [] [.l 0,.i 4]),m l0,y 0 true (.fa v2 1),y 1 true (.ld l0 1 false),y 2 true (.ln l0),y 3 true (.bin .gtr l0 (.i 0)),u (.pk l4 l0 (.b false))] [] 0 (.reg [m v0,f 1 v2,g l0,u (.ln l0),u (.ca N.aD 0 [] [.l 3,.l 0]),u (.bs [.l 0] 1),f 2 v4,u (.st l0 l1 1 [])] []) .skip) (.seq (.reg [h 4 v4,u (.st v3 l0 4 [])] []) .ret)))))),res:=[(3,some (4,true))]}
def bO:Fn:={ nargs:=8,vars:=[0,1,2,3,4,5,6,7,8,9,10,13,16,17,18,19,20,21,22,23,24,25],body:=(.seq (.reg [w 8 (.bx v0 2),w 9 (.bx v1 4),w 10 (.bx v2 1),w 11 (.bx v5 1),w 12 (.al [.nil,.nil] []),w 13 (.mv (.c (.nil))),w 14 (.mv (.i 0))] []) (.seq (.reg [h 2 v8,m v3,m v4,u (.ca N.aI 0 [] [.l 2,.l 1,.l 0]),m l0,u (.ex l0 0),u (.ex l1 1),w 15 (.al [.nil,.nil] []),u (.st l0 l2 2 []),w 16 (.mv l2)] []) (.seq (.ite [m v16,u (.bin .neq l0 (.i 0))] [] 0 (.seq (.reg [u (.bd [.nil,.nil] []),m v16,u (.st v12 l1 2 []),w 13 (.mv (.c (.nil))),w 14 (.mv l2)] []) .ret) .skip) (.seq (.seq (.reg [h 2 v8,h 4 v9,h 1 v10,m v6,m v7,u (.ca N.bS 0 [] [.l 4,.l 3,.l 2,.l 1,.l 0]),w 17 (.mv l0)] []) (.ite [m v17,u (.bin .neq l0 (.i 0))] [] 0 (.seq (.reg [u (.bd [.nil,.nil] []),m v17,u (.st v12 l1 2 []),w 13 (.mv (.c (.nil))),w 14 (.mv l2)] []) .ret) .skip)) (.seq (.reg [h 2 v15,h 1 v10,m v6,u (.ca N.eQ 0 [] [.l 2,.l 1,.l 0]),m l0,u (.ex l0 0),u (.ex l1 1),w 18 (.al [.nil] []),u (.st l0 l2 1 []),w 16 (.mv l2)] []) (.seq (.ite [m v16,u (.bin .neq l0 (.i 0))] [] 0 (.seq (.reg [u (.bd [.nil,.nil] []),m v16,u (.st v12 l1 2 []),w 13 (.mv (.c (.nil))),w 14 (.mv l2)] []) .ret) .skip) (.seq (.reg [h 2 v15,h 4 v9,h 1 v18,m v6,m v7,u (.bin .add l1 l0),u (.ca N.cA 0 [] [.l 5,.l 4,.l 3,.l 0]),w 19 (.mv l0)] []) (.seq (.seq (.reg [m v19,u (.ca N.aH 1 [] [.l 0]),u (.mf N.bG [.v 11]),u (.ca N.aK 1 [0] [.l 1,.l 0]),w 20 (.mv l0)] []) (.ite [m v20,u (.ln l0),u (.bin .gtr l0 (.i 0))] [] 0 (.seq (.reg [h 2 v8,u (.ca N.aI 0 [] [.l 0,.c (.nil),.c (.nil)]),m l0,u (.ex l0 0),u (.ex l1 1),w 21 (.al [.nil,.nil] []),u (.st l0 l2 2 []),m l2] []) (.seq (.reg [h 2 v21,m v20,u (.st v12 l1 2 []),w 13 (.mv l1),w 14 (.mv (.i 46))] []) .ret)) .skip)) (.seq (.reg [h 2 v15,m v19,u (.st v12 l1 2 []),w 13 (.mv l1),w 14 (.mv (.i 0))] []) .ret))))))))),res:=[(12,some (2,true)),(13,none),(14,none)]}
def fg:C:=(.its [u (.bin .lss v13 v12)] [] 0 .skip (.exit 1) (.seq (.blk 2 (.seq (.reg [a 1 v11 v13,g l0,w 9 (.mv l0)] []) (.reg [f 1 v8,g l0,m v9,a 10 l1 l0,f 5 l0,u (.st l0 (.b true) 1 [])] []))) (.reg [u (.bin .add v13 (.i 1)),w 13 (.mv l0)] [])))
def iU:C:= .loop true [0,1,2,3,6,7,9,10,14,15,16] K.fg
def fh:C:=(.its [u (.bin .lss v16 v15)] [] 0 .skip (.exit 3) (.seq (.blk 4 (.seq (.reg [a 1 v14 v16,g l0,w 10 (.mv l0)] []) (.reg [f 1 v8,g l0,m v10,a 10 l1 l0,f 5 l0,u (.st l0 (.b false) 1 [])] []))) (.reg [u (.bin .add v16 (.i 1)),w 16 (.mv l0)] [])))
def iV:C:= .loop true [0,1,2,3,4,6,7,9,10,11,12,13] K.fh
def aI:Fn:={ nargs:=3,vars:=[0,1,2,3,5,6,7,8,9,11,13,47,48,49,59,60,61],body:=(.seq (.reg [w 3 (.bx v0 2),w 4 (.bx v2 1),w 5 (.al [.nil,.nil] []),w 6 (.mv (.i 0))] []) (.seq (.reg [f 1 v3,g l0,u (.ln l0),u (.bin .sub l0 (.i 1)),w 7 (.mv l0)] []) (.seq (.blk 0 (.ite [h 2 v3,u (.ca N.bZ 0 [] [.l 0]),u (.un .not l0),m l0] [] 0 (.seq (.reg [u (.bd [.nil,.nil] []),u (.st v5 l0 2 []),w 6 (.mv (.i 6))] []) .ret) (.ite [m v1,m v7,u (.ca N.bE 0 [] [.l 1,.i 0,.l 0]),u (.un .not l0),m l0,y 0 false (.ld v4 1 false),y 1 false (.mv v7),y 2 false (.ca N.bE 0 [] [.l 1,.i 0,.l 0]),y 3 false (.un .not l0),u (.pk l4 (.b true) l0),m l0,y 0 false (.mv v1),y 1 false (.mf N.aQ [.v 4]),y 2 false (.ca N.av 0 [] [.l 1,.l 0]),u (.pk l3 (.b true) l0),m l0] [] 0 (.seq (.reg [u (.bd [.nil,.nil] []),u (.st v5 l0 2 []),w 6 (.mv (.i 4))] []) .ret) .skip))) (.seq (.reg [w 8 (.al [.nil,.nil] []),f 0 v3,g l0,u (.ca N.au 0 [] [.l 0]),f 1 v3,g l0,u (.ca N.ay 1 [] [.l 0]),u (.bd [.nil,.nil] [(0,1,.l 3),(1,1,.l 0)]),u (.st l7 l0 2 [])] [(0,4),(0,7),(5,1)]) (.seq (.seq (.reg [w 11 (.mv v1),w 12 (.ln l0),w 13 (.mv (.i 0))] []) (.blk 1 K.iU)) (.seq (.seq (.reg [w 14 (.ld v4 1 false),w 15 (.ln l0),w 16 (.mv (.i 0))] []) (.blk 3 K.iV)) (.seq (.reg [h 2 v8,u (.st v5 l0 2 []),w 6 (.mv (.i 0))] []) .ret))))))),res:=[(5,some (2,true)),(6,none)]}
def bk:Fn:={ nargs:=3,vars:=[0,1,2,3,4,5,6],body:=(.seq (.reg [w 3 (.bx v0 2),w 4 (.bx v1 2),w 5 (.bx v2 4),w 6 (.mv (.c (.nil)))] []) (.seq (.ite [h 2 v3,h 4 v5,u (.ca N.dg 0 [] [.l 1,.l 0]),u (.un .not l0),m l0,y 0 false (.ld v4 2 true),y 1 false (.ld v5 4 true),y 2 false (.ca N.dg 0 [] [.l 1,.l 0]),y 3 false (.un .not l0),u (.pk l4 (.b true) l0)] [] 0 (.seq (.reg [w 6 (.mv (.c (.nil)))] []) .ret) .skip) (.seq (.reg [f 0 v3,g l0,u (.ln l0),u (.mf N.aR [.v 3,.v 5,.v 4]),u (.ca N.cP 0 [] [.l 1,.l 0]),w 6 (.mv l0)] []) .ret))),res:=[(6,none)]}
def bS:Fn:={ nargs:=5,vars:=[0,1,2,3,4,5,6,7,10],body:=(.seq (.reg [w 5 (.bx v0 2),w 6 (.bx v1 4),w 7 (.bx v2 1),w 8 (.mv (.i 0))] []) (.seq (.blk 0 (.ite [h 2 v5,h 4 v6,u (.ca N.dg 0 [] [.l 1,.l 0]),u (.un .not l0),m l0,y 0 false (.ld v5 2 true),y 1 false (.ld v7 1 true),y 2 false (.ca N.eP 0 [] [.l 1,.l 0]),y 3 false (.un .not l0),u (.pk l4 (.b true) l0),m l0] [] 0 (.seq (.reg [w 8 (.mv (.i 6))] []) .ret) (.ite [m v3,u (.ca N.cV 0 [] [.l 0,.i 0,.i 2147483648]),u (.un .not l0),m l0,y 0 false (.mv v4),y 1 false (.ca N.cV 0 [] [.l 0,.i 0,.i 2147483648]),y 2 false (.un .not l0),u (.pk l3 (.b true) l0),m l0] [] 0 (.seq (.reg [w 8 (.mv (.i 8))] []) .ret) .skip))) (.seq (.reg [w 8 (.mv (.i 0))] []) .ret))),res:=[(8,none)]}
def mG:C:=(.its [u (.bin .lss v11 v10)] [] 0 .skip (.exit 0) (.seq (.blk 1 (.seq (.reg [m v11,w 9 (.mv l0)] []) (.reg [m v8,h 1 v6,m v9,m v3,u (.ca N.cZ 0 [] [.l 2,.l 1,.l 0]),u (.ca N.eR 1 [] [.l 4,.l 0]),w 8 (.mv l0)] []))) (.reg [u (.bin .add v11 (.i 1)),w 11 (.mv l0)] [])))
def nK:C:= .loop false [0,1,2,7,9] K.mG
def cA:Fn:={ nargs:=4,vars:=[0,1,2,3,4,5,6,8,9,10,16,17],body:=(.seq (.reg [w 4 (.bx v0 2),w 5 (.bx v1 4),w 6 (.bx v2 1),w 7 (.mv (.c (.nil)))] []) (.seq (.reg [w 8 (.mv (.c (.nil)))] []) (.seq (.seq (.reg [f 0 v6,g l0,a 2 l0 (.i 0),f 1 l0,g l0,w 10 (.ln l0),w 11 (.mv (.i 0))] []) (.blk 0 K.nK)) (.seq (.reg [m v8,u (.mf N.bT [.v 4,.v 5]),u (.ca N.aK 1 [0] [.l 1,.l 0]),w 7 (.mv l0)] []) .ret)))),res:=[(7,none)]}
def ij:C:=(.seq (.ite [m v4,m v0,u (.ln l0),u (.bin .lss l2 l0)] [] 0 .skip (.exit 0)) (.seq (.blk 1 (.seq (.reg [m v0,m v4,a 1 l1 l0,g l0,w 5 (.mv l0)] []) (.ite [m v1,m v5,u (.cw l1 0 [] [.l 0]),u (.un .not l0)] [] 0 (.seq (.reg [m v0,m v3,m v5,a 1 l2 l1,u (.st l0 l1 1 [])] []) (.reg [m v3,u (.bin .add l0 (.i 1)),w 3 (.mv l0)] [])) .skip))) (.reg [m v4,u (.bin .add l0 (.i 1)),w 4 (.mv l0)] [])))
def iG:C:= .loop true [2,5] K.ij
def aK:Fn:={ nargs:=2,vars:=[0,1,4,5,6,7],body:=(.seq (.reg [w 2 (.mv (.c (.nil)))] []) (.seq (.reg [m v0,m v1,u (.ca N.aF 0 [0] [.l 1,.l 0]),w 3 (.mv l0)] []) (.seq (.ite [m v3,u (.bin .eql l0 (.i (-1)))] [] 0 (.seq (.reg [m v0,w 2 (.mv l0)] []) .ret) .skip) (.seq (.seq (.reg [m v3,u (.bin .add l0 (.i 1)),w 4 (.mv l0)] []) (.blk 0 K.iG)) (.seq (.reg [m v0,m v3,u (.sc l1 (some l0) none 1),u (.clr l0 (.int .i64 (0)) 1)] []) (.seq (.reg [m v0,m v3,u (.pop l1 l0),w 2 (.mv l0)] []) .ret)))))),res:=[(2,none)]}
def bG:Fn:={ nargs:=2,vars:=[0,1,3],body:=(.seq (.reg [w 2 (.mv (.b false))] []) (.seq (.reg [g v1,m v0,u (.ca N.az 0 [] [.l 1,.l 0]),w 2 (.mv l0)] []) .ret)),res:=[(2,none)]}
def aQ:Fn:={ nargs:=2,vars:=[0,1,3],body:=(.seq (.reg [w 2 (.mv (.b false))] []) (.seq (.reg [g v1,m v0,u (.ca N.az 0 [] [.l 1,.l 0]),w 2 (.mv l0)] []) .ret)),res:=[(2,none)]}
def dg:Fn:={ nargs:=2,vars:=[0,1,2,3,4,5],body:=(.seq (.reg [w 2 (.bx v0 2),w 3 (.bx v1 4),w 4 (.mv (.b false))] []) (.seq (.reg [f 0 v2,g l0,u (.ln l0),u (.bin .sub l0 (.i 1)),w 5 (.mv l0)] []) (.seq (.reg [h 2 v2,u (.ca N.bZ 0 [] [.l 0]),m l0,y 0 true (.fa v3 0),y 1 true (.ld l0 1 false),y 2 true (.mv v5),y 3 true (.ca N.bE 0 [] [.l 1,.i 0,.l 0]),u (.pk l4 l0 (.b false)),m l0,y 0 true (.fa v3 1),y 1 true (.ld l0 1 false),y 2 true (.mv v5),y 3 true (.ca N.bE 0 [] [.l 1,.i 0,.l 0]),u (.pk l4 l0 (.b false)),m l0,y 0 true (.fa v3 2),y 1 true (.ld l0 1 false),y 2 true (.fa v2 1),y 3 true (.ld l0 1 false),y 4 true (.ln l0),y 5 true (.bin .sub l0 (.i 1)),y 6 true (.ca N.bE 0 [] [.l 4,.i 0,.l 0]),u (.pk l7 l0 (.b false)),m l0,y 0 true (.fa v3 3),y 1 true (.ld l0 1 false),y 2 true (.ca N.cV 0 [] [.l 0,.i 0,.i 2147483648]),u (.pk l3 l0 (.b false)),w 4 (.mv l0)] []) .ret))),res:=[(4,none)]}
def aR:Fn:={ nargs:=4,vars:=[0,1,2,3,5],body:=(.seq (.reg [w 4 (.mv (.b false))] []) (.seq (.reg [h 2 v1,h 4 v2,m v0,u (.ca N.bH 0 [] [.l 2,.l 1,.l 0]),m l0,y 0 true (.ld v3 2 true),y 1 true (.ld v2 4 true),y 2 true (.mv v0),y 3 true (.ca N.bH 0 [] [.l 2,.l 1,.l 0]),y 4 true (.un .not l0),u (.pk l5 l0 (.b false)),w 4 (.mv l0)] []) .ret)),res:=[(4,none)]}
end Go.Ev.K
namespace Go.Ev
class gW [Lib]:Prop where
 en:Lib.fs N.aO=some K.aO
 pc:Lib.fs N.dG=some K.dG
 gp:Lib.fs N.bM=some K.bM
 iW:Lib.fs N.bO=some K.bO
 gq:Lib.fs N.aI=some K.aI
 gr:Lib.fs N.bk=some K.bk
 iu:Lib.fs N.bS=some K.bS
 jq:Lib.fs N.cA=some K.cA
 eS:Lib.fs N.aK=some K.aK
 gX:Lib.fs N.bG=some K.bG
 fj:Lib.fs N.aQ=some K.aQ
 lM:Lib.fs N.dg=some K.dg
 fk:Lib.fs N.aR=some K.aR
namespace K
variable [Lib] [gW]
theorem en:Lib.fs N.aO=some K.aO:=gW.en
theorem pc:Lib.fs N.dG=some K.dG:=gW.pc
theorem gp:Lib.fs N.bM=some K.bM:=gW.gp
theorem iW:Lib.fs N.bO=some K.bO:=gW.iW
theorem gq:Lib.fs N.aI=some K.aI:=gW.gq
theorem gr:Lib.fs N.bk=some K.bk:=gW.gr
theorem iu:Lib.fs N.bS=some K.bS:=gW.iu
theorem jq:Lib.fs N.cA=some K.cA:=gW.jq
theorem eS:Lib.fs N.aK=some K.aK:=gW.eS
theorem gX:Lib.fs N.bG=some K.bG:=gW.gX
theorem fj:Lib.fs N.aQ=some K.aQ:=gW.fj
theorem lM:Lib.fs N.dg=some K.dg:=gW.lM
theorem fk:Lib.fs N.aR=some K.aR:=gW.fk
end K
end Go.Ev
namespace Go.Ev.K
open Go.Ev
def bH:Fn:={ nargs:=3,vars:=[0,1,2,3,4,6,9,10],body:=(.seq (.reg [w 3 (.bx v0 2),w 4 (.bx v1 4),w 5 (.mv (.b false))] []) (.seq (.reg [h 2 v3,h 4 v4,m v2,u (.ca N.eC 0 [] [.l 2,.l 1,.l 0]),m l0,u (.ex l0 0),u (.ex l1 1),u (.ex l2 2),u (.ex l3 3),w 6 (.al [.t (.int .i64 (0)),.t (.int .i64 (0))] []),m l4,m l4,u (.st l2 l4 2 []),w 7 (.mv l4)] []) (.seq (.reg [m v7,m l0,y 0 true (.ld v3 2 true),y 1 true (.mv v2),y 2 true (.ca N.gM 0 [] [.l 1,.l 0]),y 3 true (.iaa v6 (.i 0) 2 1),y 4 true (.ld l0 1 false),y 5 true (.iaa v6 (.i 1) 2 1),y 6 true (.ld l0 1 false),y 7 true (.mx [.l 2,.l 0]),y 8 true (.bin .add l5 l0),y 9 true (.fa v4 3),y 10 true (.ld l0 1 false),y 11 true (.bin .leq l2 l0),u (.pk (.l 12) l0 (.b false)),w 5 (.mv l0)] [(6,0),(8,0),(12,0)]) .ret))),res:=[(5,none)]}
def eR:Fn:={ nargs:=2,vars:=[0,1,4,5],body:=(.seq (.reg [w 2 (.mv (.c (.nil)))] []) (.seq (.reg [m v0,m v1,u (.bs [.l 1,.l 0] 1),u (.ca N.bh 1 [] [.l 0]),w 3 (.mv l0)] []) (.seq (.reg [m v3,u (.ca N.bF 0 [0] [.l 0])] []) (.seq (.reg [m v3,u (.ca N.bc 1 [0] [.l 0]),w 2 (.mv l0)] []) .ret)))),res:=[(2,none)]}
def bT:Fn:={ nargs:=3,vars:=[0,1,2,4],body:=(.seq (.reg [w 3 (.mv (.b false))] []) (.seq (.reg [h 2 v1,h 4 v2,m v0,u (.ca N.bH 0 [] [.l 2,.l 1,.l 0]),w 3 (.mv l0)] []) .ret)),res:=[(3,none)]}
def lN:C:=(.its [u (.bin .lss v15 v14)] [] 0 .skip (.exit 0) (.seq (.blk 1 (.seq (.reg [a 1 v13 v15,g l0,w 12 (.mv l0)] []) (.reg [f 3 v9,g l0,m v12,a 1 l1 l0,u (.st l0 (.b true) 1 [])] []))) (.reg [u (.bin .add v15 (.i 1)),w 15 (.mv l0)] [])))
def sJ:C:= .loop true [0,1,3,4,6,8,10,11,12] K.lN
def eC:Fn:={ nargs:=3,vars:=[0,1,2,3,4,6,7,8,9,10,11,12,14,44,45,46],body:=(.seq (.reg [w 3 (.bx v0 2),w 4 (.bx v1 4),w 5 (.al [.nil] []),w 6 (.mv (.c (.nil))),w 7 (.al [.t (.int .i64 (0)),.t (.int .i64 (0))] []),w 8 (.mv (.b false))] []) (.seq (.ite [h 2 v3,h 4 v4,m v2,u (.ca N.ee 0 [] [.l 2,.l 1,.l 0]),u (.un .not l0)] [] 0 (.seq (.reg [h 2 v7,u (.st v5 (.c (.nil)) 1 []),w 6 (.mv (.c (.nil))),u (.st v7 l2 2 []),w 8 (.mv (.b false))] [(0,2)]) .ret) .skip) (.seq (.reg [h 2 v3,h 4 v4,u (.ca N.dA 1 [] [.l 1,.l 0]),w 9 (.al [.t (.int .i64 (0)),.nil,.nil,.nil] []),u (.st l0 l1 4 [])] []) (.seq (.ite [f 2 v9,g l0,m v2,a 1 l1 l0,g l0] [] 0 (.seq (.reg [h 2 v7,u (.st v5 (.c (.nil)) 1 []),w 6 (.mv (.c (.nil))),u (.st v7 l2 2 []),w 8 (.mv (.b true))] [(0,2)]) .ret) .skip) (.seq (.reg [h 4 v9,m v2,u (.ca N.aV 0 [0] [.l 1,.l 0]),m l0,u (.ex l0 0),u (.ex l1 1),u (.ex l2 2),u (.ex l3 3),u (.st v5 l3 1 []),w 10 (.mv l3),w 11 (.mv l3),w 8 (.mv l3)] []) (.seq (.ite [m v8,u (.un .not l0)] [] 0 (.seq (.reg [h 2 v7,u (.st v5 (.c (.nil)) 1 []),w 6 (.mv (.c (.nil))),u (.st v7 l2 2 []),w 8 (.mv (.b false))] [(0,2)]) .ret) .skip) (.seq (.reg [m v10,u (.iaa v7 (.i 0) 2 1),u (.st l0 l1 1 [])] []) (.seq (.seq (.reg [m v11,w 13 (.sc l0 (some (.i 1)) none 1),w 14 (.ln l0),w 15 (.mv (.i 0))] []) (.blk 0 K.sJ)) (.seq (.reg [f 1 v9,g l0,u (.mf N.bP [.v 5]),u (.ca N.aj 1 [0] [.l 1,.l 0]),f 1 v9,u (.st l0 l1 1 [])] []) (.seq (.reg [h 4 v9,m v2,u (.ca N.aV 0 [0] [.l 1,.l 0]),m l0,u (.ex l0 0),u (.ex l1 1),u (.ex l2 2),u (.ex l3 3),w 6 (.mv l3),u (.iaa v7 (.i 1) 2 1),u (.st l0 l4 1 []),w 8 (.mv l3)] []) (.seq (.ite [m v8,u (.un .not l0)] [] 0 (.seq (.reg [h 2 v7,u (.st v5 (.c (.nil)) 1 []),w 6 (.mv (.c (.nil))),u (.st v7 l2 2 []),w 8 (.mv (.b false))] [(0,2)]) .ret) .skip) (.seq (.reg [g v5,m v6,h 2 v7,u (.st v5 l2 1 []),w 6 (.mv l2),u (.st v7 l2 2 []),w 8 (.mv (.b true))] [(2,4)]) .ret)))))))))))),res:=[(5,some (1,false)),(6,none),(7,some (2,true)),(8,none)]}
def lO:C:=(.its [u (.bin .lss v9 v8)] [] 0 .skip (.exit 0) (.seq (.blk 1 (.seq (.reg [m v9,a 10 v7 v9,h 10 l0,w 6 (.al [.t (.int .i64 (0)),.t (.int .i64 (0)),.t (.int .i64 (0)),.t (.int .i64 (0)),.t (.bool false),.t (.bool false),.t (.int .i64 (0)),.t (.int .i64 (0)),.t (.int .i64 (0)),.t (.int .i64 (0))] []),w 5 (.mv l3),u (.st l1 l2 10 [])] []) (.seq (.ite [f 1 v6,g l0,m v1,u (.bin .eql l1 l0)] [] 0 (.reg [m v4,h 2 v2,m v5,u (.ca N.dM 0 [] [.l 1,.l 0,.b false]),u (.mx [.l 3,.l 0]),w 4 (.mv l0)] []) .skip) (.ite [f 0 v6,g l0,m v1,u (.bin .eql l1 l0)] [] 0 (.reg [m v4,h 2 v2,m v5,u (.ca N.dM 0 [] [.l 1,.l 0,.b true]),u (.mx [.l 3,.l 0]),w 4 (.mv l0)] []) .skip)))) (.reg [u (.bin .add v9 (.i 1)),w 9 (.mv l0)] [])))
def sK:C:= .loop true [0,3,5,6] K.lO
def gM:Fn:={ nargs:=2,vars:=[0,1,2,4,5,6,7,9,10,11],body:=(.seq (.reg [w 2 (.bx v0 2),w 3 (.mv (.i 0))] []) (.seq (.reg [w 4 (.mv (.i 0))] []) (.seq (.seq (.reg [f 1 v2,w 7 (.ld l0 1 false),w 8 (.ln l0),w 9 (.mv (.i 0))] []) (.blk 0 K.sK)) (.seq (.reg [m v4,w 3 (.mv l0)] []) .ret)))),res:=[(3,none)]}
def jF:C:=(.its [u (.bin .lss v8 v7)] [] 0 .skip (.exit 0) (.seq (.blk 1 (.seq (.reg [a 1 v6 v8,g l0,w 3 (.mv l0)] []) (.seq (.reg [m v2,m v3,u (.ln l0),u (.bin .add l2 l0),w 2 (.mv l0)] []) (.ite [m v2,u (.bin .lss l0 (.i 0))] [] 0 .fail .skip)))) (.reg [u (.bin .add v8 (.i 1)),w 8 (.mv l0)] [])))
def j6:C:= .loop true [1,3,4,5,9,10,11] K.jF
def jG:C:=(.its [u (.bin .lss v11 v10)] [] 0 .skip (.exit 2) (.seq (.blk 3 (.seq (.reg [a 1 v9 v11,g l0,w 5 (.mv l0)] []) (.reg [m v4,m v5,u (.app l1 l0 true 1),w 4 (.mv l0)] []))) (.reg [u (.bin .add v11 (.i 1)),w 11 (.mv l0)] [])))
def j7:C:= .loop true [0,1,2,3,5,6,7,8] K.jG
def bh:Fn:={ nargs:=1,vars:=[0,2,3,5,6,8,9,10,11,25,26,27],body:=(.seq (.reg [w 1 (.mv (.c (.nil)))] []) (.seq (.reg [w 2 (.mv (.i 0))] []) (.seq (.seq (.reg [w 6 (.mv v0),w 7 (.ln l0),w 8 (.mv (.i 0))] []) (.blk 0 K.j6)) (.seq (.reg [m v2,u (.ca N.bI 1 [0] [.c (.nil),.l 0]),w 4 (.mv l0)] []) (.seq (.seq (.reg [w 9 (.mv v0),w 10 (.ln l0),w 11 (.mv (.i 0))] []) (.blk 2 K.j7)) (.seq (.reg [m v4,w 1 (.mv l0)] []) .ret)))))),res:=[(1,none)]}
def jc:C:=(.seq (.ite [m v4,m v3,u (.ln l0),u (.bin .lss l2 l0)] [] 0 .skip (.exit 2)) (.seq (.blk 3 (.ite [m v3,m v4,a 1 l1 l0,g l0,m v3,m v4,u (.bin .sub l0 (.i 1)),a 1 l2 l0,g l0,u (.bin .neq l5 l0)] [] 0 (.seq (.reg [m v0,m v2,m v3,m v4,a 1 l1 l0,g l0,a 1 l5 l4,u (.st l0 l1 1 [])] []) (.reg [m v2,u (.bin .add l0 (.i 1)),w 2 (.mv l0)] [])) .skip)) (.reg [m v4,u (.bin .add l0 (.i 1)),w 4 (.mv l0)] [])))
def jH:C:= .loop true [1] K.jc
def jd:C:=(.seq (.ite [m v2,m v0,u (.ln l0),u (.bin .lss l2 l0)] [] 0 .skip (.exit 0)) (.seq (.blk 1 (.ite [m v0,m v2,a 1 l1 l0,g l0,m v0,m v2,u (.bin .sub l0 (.i 1)),a 1 l2 l0,g l0,u (.bin .eql l5 l0)] [] 0 (.seq (.reg [m v0,m v2,u (.sc l1 (some l0) none 1),w 3 (.mv l0)] []) (.seq (.seq (.reg [w 4 (.mv (.i 1))] []) (.blk 2 K.jH)) (.seq (.reg [m v0,m v2,u (.sc l1 (some l0) none 1),u (.clr l0 (.int .i64 (0)) 1)] []) (.seq (.reg [m v0,m v2,u (.pop l1 l0),w 1 (.mv l0)] []) .ret)))) .skip)) (.reg [m v2,u (.bin .add l0 (.i 1)),w 2 (.mv l0)] [])))
def jI:C:= .loop true [1,3,4] K.jd
def bc:Fn:={ nargs:=1,vars:=[0,2,3,4,5],body:=(.seq (.reg [w 1 (.mv (.c (.nil)))] []) (.seq (.ite [m v0,u (.ln l0),u (.bin .lss l0 (.i 2))] [] 0 (.seq (.reg [m v0,w 1 (.mv l0)] []) .ret) .skip) (.seq (.seq (.reg [w 2 (.mv (.i 1))] []) (.blk 0 K.jI)) (.seq (.reg [m v0,w 1 (.mv l0)] []) .ret)))),res:=[(1,none)]}
def ee:Fn:={ nargs:=3,vars:=[0,1,2,3,4,6],body:=(.seq (.reg [w 3 (.bx v0 2),w 4 (.bx v1 4),w 5 (.mv (.b false))] []) (.seq (.reg [h 2 v3,h 4 v4,u (.ca N.dg 0 [] [.l 1,.l 0]),m l0,y 0 true (.mv v2),y 1 true (.fa v3 0),y 2 true (.ld l0 1 false),y 3 true (.ln l0),y 4 true (.bin .sub l0 (.i 1)),y 5 true (.ca N.cV 0 [] [.l 4,.i 0,.l 0]),u (.pk l6 l0 (.b false)),w 5 (.mv l0)] []) .ret)),res:=[(5,none)]}
def kE:C:=(.its [u (.bin .lss v16 v15)] [] 0 .skip (.exit 0) (.seq (.blk 1 (.seq (.reg [m v16,a 2 v14 v16,h 2 l0,w 7 (.al [.t (.int .i64 (0)),.t (.bool false)] []),w 6 (.mv l3),u (.st l1 l2 2 [])] []) (.reg [f 2 v5,g l0,m v6,f 1 v7,g l0,a 1 l3 l2,u (.st l0 l1 1 [])] []))) (.reg [u (.bin .add v16 (.i 1)),w 16 (.mv l0)] [])))
def qE:C:= .loop true [0,1,6,7,8,9,10,11,12,13,17,18,19,20,21,22,23,24,25] K.kE
def kF:C:=(.its [u (.bin .lss v19 v18)] [] 0 .skip (.exit 2) (.seq (.blk 3 (.seq (.reg [a 1 v17 v19,g l0,w 8 (.mv l0)] []) (.reg [f 2 v5,g l0,m v8,a 1 l1 l0,u (.st l0 (.b true) 1 [])] []))) (.reg [u (.bin .add v19 (.i 1)),w 19 (.mv l0)] [])))
def qF:C:= .loop true [0,1,6,7,8,9,10,11,12,13,14,15,16,20,21,22,23,24,25] K.kF
def kG:C:=(.its [u (.bin .lss v22 v21)] [] 0 .skip (.exit 4) (.seq (.blk 5 (.seq (.reg [a 1 v20 v22,g l0,w 9 (.mv l0)] []) (.reg [f 3 v5,g l0,m v9,a 1 l1 l0,u (.st l0 (.b true) 1 [])] []))) (.reg [u (.bin .add v22 (.i 1)),w 22 (.mv l0)] [])))
def qG:C:= .loop true [0,1,6,7,8,9,10,11,12,13,14,15,16,17,18,19,23,24,25] K.kG
def dY:C:=(.its [u (.bin .lss (.v 25) (.v 24))] [] 0 .skip (.exit 6) (.seq (.blk 7 (.seq (.reg [m (.v 25),a 10 v23 (.v 25),h 10 l0,w 11 (.al [.t (.int .i64 (0)),.t (.int .i64 (0)),.t (.int .i64 (0)),.t (.int .i64 (0)),.t (.bool false),.t (.bool false),.t (.int .i64 (0)),.t (.int .i64 (0)),.t (.int .i64 (0)),.t (.int .i64 (0))] []),w 10 (.mv l3),u (.st l1 l2 10 [])] []) (.seq (.ite [f 2 v3,g l0,m v10,u (.ca N.az 0 [] [.l 1,.l 0])] [] 0 (.exit 7) .skip) (.seq (.seq (.reg [h 2 v2,m v10,u (.ca N.dM 0 [] [.l 1,.l 0,.b false]),w 12 (.mv l0)] []) (.ite [m v12,u (.bin .geq l0 (.i 0))] [] 0 (.reg [f 1 v5,g l0,m v10,f 0 v11,g l0,f 1 v11,g l0,m v12,u (.bd [.t (.int .i64 (0)),.t (.int .i64 (0)),.t (.int .i64 (0)),.t (.int .i64 (0))] [(0,1,.l 5),(1,1,.l 3),(2,1,.l 1),(3,1,.l 0)]),u (.bs [.l 0] 4),u (.app l8 l0 true 4),f 1 v5,u (.st l0 l1 1 [])] []) .skip)) (.seq (.reg [h 2 v2,m v10,u (.ca N.dM 0 [] [.l 1,.l 0,.b true]),w 13 (.mv l0)] []) (.ite [m v13,u (.bin .geq l0 (.i 0))] [] 0 (.reg [f 1 v5,g l0,m v10,f 1 v11,g l0,f 0 v11,g l0,m v13,u (.bd [.t (.int .i64 (0)),.t (.int .i64 (0)),.t (.int .i64 (0)),.t (.int .i64 (0))] [(0,1,.l 5),(1,1,.l 3),(2,1,.l 1),(3,1,.l 0)]),u (.bs [.l 0] 4),u (.app l8 l0 true 4),f 1 v5,u (.st l0 l1 1 [])] []) .skip)))))) (.reg [u (.bin .add (.v 25) (.i 1)),w 25 (.mv l0)] [])))
def qH:C:= .loop true [0,1,6,7,8,9,10,11,12,13,14,15,16,17,18,19,20,21,22] K.dY
def dA:Fn:={ nargs:=2,vars:=[0,1,2,3,4,5,6,7,9,11,12,13,14,15,29,30,31,44,45,46,56,57,58,68,69,70],body:=(.seq (.reg [w 2 (.bx v0 2),w 3 (.bx v1 4),w 4 (.al [.t (.int .i64 (0)),.nil,.nil,.nil] [])] []) (.seq (.reg [w 5 (.al [.t (.int .i64 (0)),.nil,.nil,.nil] [(1,4)]),f 0 v2,g l0,u (.ln l0),f 0 v2,g l0,u (.ln l0),u (.mkn l0 (.bool false) 1),f 0 v2,g l0,u (.ln l0),u (.mkn l0 (.bool false) 1),u (.bd [.t (.int .i64 (0)),.nil,.nil,.nil] [(0,1,.l 8),(2,1,.l 4),(3,1,.l 0)]),u (.st (.l 12) l0 4 [(1,4)])] [(2,12),(5,12),(9,12)]) (.seq (.seq (.reg [f 0 v2,w 14 (.ld l0 1 false),w 15 (.ln l0),w 16 (.mv (.i 0))] []) (.blk 0 K.qE)) (.seq (.seq (.reg [f 0 v3,w 17 (.ld l0 1 false),w 18 (.ln l0),w 19 (.mv (.i 0))] []) (.blk 2 K.qF)) (.seq (.seq (.reg [f 1 v3,w 20 (.ld l0 1 false),w 21 (.ln l0),w 22 (.mv (.i 0))] []) (.blk 4 K.qG)) (.seq (.seq (.reg [f 1 v2,w 23 (.ld l0 1 false),w 24 (.ln l0),w 25 (.mv (.i 0))] []) (.blk 6 K.qH)) (.seq (.reg [h 4 v5,u (.st v4 l0 4 [])] []) .ret))))))),res:=[(4,some (4,true))]}
def cm:C:=(.seq (.ite [f 2 v2,g l0,g v8,a 1 l1 l0,g l0,u (.un .not l0)] [] 0 .skip (.exit 0)) (.seq (.blk 1 (.seq (.reg [f 1 v2,g l0,u (.mf N.ao [.v 8,.v 2,.v 7]),u (.ca N.ae 0 [0] [.l 1,.l 0]),w 9 (.mv l0)] []) (.seq (.reg [f 1 v2,g l0,m v9,a 4 l1 l0,f 2 l0,g l0,u (.st v8 l0 1 [])] []) (.reg [m v3,f 1 v2,g l0,m v9,a 4 l1 l0,f 0 l0,g l0,u (.bs [.l 0] 1),u (.app l7 l0 true 1),m v5,g v8,u (.bs [.l 0] 1),u (.app l2 l0 true 1),w 3 (.mv l4),w 5 (.mv l1)] [(7,7),(10,0),(11,0)])))) (.seq (.reg [w 10 (.ld v8 1 false)] []) (.reg [w 8 (.al [.t (.int .i64 (0))] []),u (.st l0 v10 1 [])] []))))
def iX:C:= .loop false [0,4,6,9,10] K.cm
def aV:Fn:={ nargs:=2,vars:=[0,1,2,4,5,6,7,8,9,10,51],body:=(.seq (.reg [w 2 (.bx v0 4),w 3 (.nw 1),w 4 (.mv (.i 0)),w 5 (.nw 1),w 6 (.mv (.b false))] []) (.seq (.reg [h 4 v2,u (.ca N.bq 0 [0] [.l 0]),w 7 (.al [.nil] []),u (.st l0 l1 1 [])] []) (.seq (.ite [g v7,m v1,a 2 l1 l0,f 0 l0,g l0,u (.bin .geq l0 (.i 1152921504606846976))] [] 0 (.seq (.reg [w 3 (.nw 1),w 4 (.mv (.i 0)),w 5 (.nw 1),w 6 (.mv (.b false))] []) .ret) .skip) (.seq (.reg [m v1,u (.bsr [.l 0] 1),w 5 (.mv l0)] []) (.seq (.seq (.reg [m v1,w 8 (.al [.t (.int .i64 (0))] []),u (.st l0 l1 1 [])] []) (.blk 0 K.iX)) (.seq (.reg [m v3,g v7,m v1,a 2 l1 l0,f 0 l0,g l0,m v5,w 3 (.mv l6),w 4 (.mv l2),w 5 (.mv l2),w 6 (.mv (.b true))] []) .ret)))))),res:=[(3,none),(4,none),(5,none),(6,none)]}
def aT:C:=(.seq (.ite [m v4,m v0,u (.ln l0),u (.bin .lss l2 l0)] [] 0 .skip (.exit 0)) (.seq (.blk 1 (.seq (.reg [m v0,m v4,a 4 l1 l0,h 4 l0,w 5 (.al [.t (.int .i64 (0)),.t (.int .i64 (0)),.t (.int .i64 (0)),.t (.int .i64 (0))] []),u (.st l0 l1 4 [])] []) (.ite [m v1,h 4 v5,u (.cw l1 0 [] [.l 0]),u (.un .not l0)] [] 0 (.seq (.reg [m v0,m v3,h 4 v5,a 4 l2 l1,u (.st l0 l1 4 [])] []) (.reg [m v3,u (.bin .add l0 (.i 1)),w 3 (.mv l0)] [])) .skip))) (.reg [m v4,u (.bin .add l0 (.i 1)),w 4 (.mv l0)] [])))
def cE:C:= .loop true [2,5] K.aT
def aj:Fn:={ nargs:=2,vars:=[0,1,4,5,6,7],body:=(.seq (.reg [w 2 (.mv (.c (.nil)))] []) (.seq (.reg [m v0,m v1,u (.ca N.ae 0 [0] [.l 1,.l 0]),w 3 (.mv l0)] []) (.seq (.ite [m v3,u (.bin .eql l0 (.i (-1)))] [] 0 (.seq (.reg [m v0,w 2 (.mv l0)] []) .ret) .skip) (.seq (.seq (.reg [m v3,u (.bin .add l0 (.i 1)),w 4 (.mv l0)] []) (.blk 0 K.cE)) (.seq (.reg [m v0,m v3,u (.sc l1 (some l0) none 4),u (.clr l0 (.agg [(.int .i64 (0)),(.int .i64 (0)),(.int .i64 (0)),(.int .i64 (0))]) 4)] []) (.seq (.reg [m v0,m v3,u (.pop l1 l0),w 2 (.mv l0)] []) .ret)))))),res:=[(2,none)]}
def bP:Fn:={ nargs:=2,vars:=[0,1,2,3],body:=(.seq (.reg [w 2 (.bx v0 4),w 3 (.mv (.b false))] []) (.seq (.reg [g v1,f 0 v2,g l0,u (.ca N.az 0 [] [.l 2,.l 0]),w 3 (.mv l0)] []) .ret)),res:=[(3,none)]}
def dM:Fn:={ nargs:=3,vars:=[0,1,2,3,6],body:=(.seq (.reg [w 3 (.bx v0 2),w 4 (.mv (.i 0))] []) (.seq (.ite [h 2 v3,u (.ca N.bZ 0 [] [.l 0]),u (.un .not l0),m l0,y 0 false (.mv v1),y 1 false (.bin .lss l0 (.i 0)),u (.pk l2 (.b true) l0),m l0,y 0 false (.mv v1),y 1 false (.fa v3 1),y 2 false (.ld l0 1 false),y 3 false (.ln l0),y 4 false (.bin .geq l3 l0),u (.pk l5 (.b true) l0)] [] 0 (.seq (.reg [w 4 (.mv (.i (-1)))] []) .ret) .skip) (.seq (.reg [h 2 v3,m v1,m v2,u (.ca N.fD 0 [] []),u (.ca N.cD 0 [] [.l 3,.l 2,.l 1,.l 0]),w 4 (.mv l0)] [(0,4)]) .ret))),res:=[(4,none)]}
def bI:Fn:={ nargs:=2,vars:=[4],body:= .fail,res:=[(0,none)],prim:=[4]}
def dB:C:=(.its [u (.bin .lss v9 v8)] [] 0 .skip (.exit 0) (.seq (.blk 1 (.seq (.reg [m v9,w 4 (.mv l0)] []) (.ite [f 2 v1,g l0,m v4,a 1 l1 l0,g l0,u (.un .not l0)] [] 0 (.reg [m v3,m v4,a 2 l1 l0,f 0 l0,u (.st l0 (.i 1152921504606846976) 1 [])] []) .skip))) (.reg [u (.bin .add v9 (.i 1)),w 9 (.mv l0)] [])))
def iv:C:= .loop true [0,2,4,5,6,7,10,11,12] K.dB
def b7:C:=(.its [u (.bin .lss v12 v11)] [] 0 .skip (.exit 4) (.seq (.blk 5 (.seq (.reg [a 4 v10 v12,h 4 l0,w 6 (.al [.t (.int .i64 (0)),.t (.int .i64 (0)),.t (.int .i64 (0)),.t (.int .i64 (0))] []),u (.st l0 l1 4 [])] []) (.seq (.reg [w 7 (.al [.t (.int .i64 (0)),.t (.int .i64 (0))] []),m v3,f 2 v6,g l0,a 2 l2 l0,f 0 l0,g l0,f 3 v6,g l0,u (.bin .add l2 l0),m v3,f 2 v6,g l0,a 2 l2 l0,f 1 l0,g l0,u (.bin .add l0 (.i 1)),u (.bd [.t (.int .i64 (0)),.t (.int .i64 (0))] [(0,1,.l 7),(1,1,.l 0)]),u (.st (.l 17) l0 2 [])] []) (.ite [h 4 v1,h 4 v6,u (.ca N.aY 0 [0] [.l 1,.l 0]),m l0,y 0 true (.mv v3),y 1 true (.fa v6 2),y 2 true (.ld l0 1 false),y 3 true (.ia l2 l0 2),y 4 true (.fa l0 0),y 5 true (.ld l0 1 false),y 6 true (.bin .lss l0 (.i 1152921504606846976)),u (.pk l7 l0 (.b false)),m l0,y 0 true (.ld v7 2 true),y 1 true (.mv v3),y 2 true (.fa v6 1),y 3 true (.ld l0 1 false),y 4 true (.ia l2 l0 2),y 5 true (.ld l0 2 true),y 6 true (.ca N.ch 0 [] [.l 5,.l 0]),u (.pk l7 l0 (.b false))] [] 0 (.reg [m v3,f 1 v6,g l0,h 2 v7,a 2 l3 l1,u (.st l0 l1 2 []),w 5 (.mv (.b true))] []) .skip)))) (.reg [u (.bin .add v12 (.i 1)),w 12 (.mv l0)] [])))
def iw:C:= .loop true [0,2,4,6,7,8,9] K.b7
def eT:C:=(.seq (.ite [m v5] [] 0 .skip (.exit 2)) (.blk 3 (.seq (.reg [w 5 (.mv (.b false))] []) (.seq (.reg [f 1 v1,w 10 (.ld l0 1 false),w 11 (.ln l0),w 12 (.mv (.i 0))] []) (.blk 4 K.iw)))))
def iy:C:= .loop true [0,2,4,6,7,8,9,10,11,12] K.eT
def bq:Fn:={ nargs:=1,vars:=[0,1,2,3,4,5,7,8,13,14,30,31,32],body:=(.seq (.reg [w 1 (.bx v0 4),w 2 (.mv (.c (.nil)))] []) (.seq (.reg [f 0 v1,g l0,u (.mk l0 (.t (.agg [(.int .i64 (0)),(.int .i64 (0))])) 2),w 3 (.mv l0)] []) (.seq (.seq (.reg [m v3,w 8 (.ln l0),w 9 (.mv (.i 0))] []) (.blk 0 K.iv)) (.seq (.seq (.reg [w 5 (.mv (.b true))] []) (.blk 2 K.iy)) (.seq (.reg [m v3,w 2 (.mv l0)] []) .ret))))),res:=[(2,none)]}
end Go.Ev.K
namespace Go.Ev
class gz [Lib]:Prop where
 kH:Lib.fs N.bH=some K.bH
 pd:Lib.fs N.eR=some K.eR
 iz:Lib.fs N.bT=some K.bT
 p4:Lib.fs N.eC=some K.eC
 p5:Lib.fs N.gM=some K.gM
 gu:Lib.fs N.bh=some K.bh
 fR:Lib.fs N.bc=some K.bc
 lQ:Lib.fs N.ee=some K.ee
 nL:Lib.fs N.dA=some K.dA
 gv:Lib.fs N.aV=some K.aV
 bJ:Lib.fs N.aj=some K.aj
 lS:Lib.fs N.bP=some K.bP
 nM:Lib.fs N.dM=some K.dM
 gY:Lib.fs N.bI=some K.bI
 fI:Lib.fs N.bq=some K.bq
namespace K
variable [Lib] [gz]
theorem kH:Lib.fs N.bH=some K.bH:=gz.kH
theorem pd:Lib.fs N.eR=some K.eR:=gz.pd
theorem iz:Lib.fs N.bT=some K.bT:=gz.iz
theorem p4:Lib.fs N.eC=some K.eC:=gz.p4
theorem p5:Lib.fs N.gM=some K.gM:=gz.p5
theorem gu:Lib.fs N.bh=some K.bh:=gz.gu
theorem fR:Lib.fs N.bc=some K.bc:=gz.fR
theorem lQ:Lib.fs N.ee=some K.ee:=gz.lQ
theorem nL:Lib.fs N.dA=some K.dA:=gz.nL
theorem gv:Lib.fs N.aV=some K.aV:=gz.gv
theorem bJ:Lib.fs N.aj=some K.aj:=gz.bJ
theorem lS:Lib.fs N.bP=some K.bP:=gz.lS
theorem nM:Lib.fs N.dM=some K.dM:=gz.nM
theorem gY:Lib.fs N.bI=some K.bI:=gz.gY
theorem fI:Lib.fs N.bq=some K.bq:=gz.fI
end K
end Go.Ev
namespace Go.Ev.K
open Go.Ev
def aB:C:=(.its [u (.bin .lss v5 v4)] [] 0 .skip (.exit 0) (.seq (.blk 1 (.seq (.reg [m v5,w 3 (.mv l0)] []) (.ite [m v1,m v0,m v3,a 4 l1 l0,h 4 l0,u (.cw l4 0 [] [.l 0])] [] 0 (.seq (.reg [m v3,w 2 (.mv l0)] []) .ret) .skip))) (.reg [u (.bin .add v5 (.i 1)),w 5 (.mv l0)] [])))
def bK:C:= .loop true [2,3] K.aB
def ae:Fn:={ nargs:=2,vars:=[0,1,4,5,7,8],body:=(.seq (.reg [w 2 (.mv (.i 0))] []) (.seq (.seq (.reg [m v0,w 4 (.ln l0),w 5 (.mv (.i 0))] []) (.blk 0 K.bK)) (.seq (.reg [w 2 (.mv (.i (-1)))] []) .ret))),res:=[(2,none)]}
def ao:Fn:={ nargs:=4,vars:=[0,1,2,3,4,5],body:=(.seq (.reg [w 4 (.bx v0 4),w 5 (.mv (.b false))] []) (.seq (.reg [f 1 v4,g l0,g v1,u (.bin .eql l1 l0),m l0,y 0 true (.ld v2 4 true),y 1 true (.ld v4 4 true),y 2 true (.ca N.aY 0 [0] [.l 1,.l 0]),u (.pk l3 l0 (.b false)),m l0,y 0 true (.ld v3 1 false),y 1 true (.fa v4 2),y 2 true (.ld l0 1 false),y 3 true (.ia l2 l0 2),y 4 true (.ld l0 2 true),y 5 true (.ld v3 1 false),y 6 true (.ld v1 1 false),y 7 true (.ia l1 l0 2),y 8 true (.fa l0 0),y 9 true (.ld l0 1 false),y 10 true (.fa v4 3),y 11 true (.ld l0 1 false),y 12 true (.bin .sub l2 l0),y 13 true (.ld v3 1 false),y 14 true (.ld v1 1 false),y 15 true (.ia l1 l0 2),y 16 true (.fa l0 1),y 17 true (.ld l0 1 false),y 18 true (.bin .sub l0 (.i 1)),y 19 true (.bd [.t (.int .i64 (0)),.t (.int .i64 (0))] [(0,1,.l 6),(1,1,.l 0)]),y 20 true (.eqk (.ints 2) false (.l 15) l0),u (.pk (.l 21) l0 (.b false)),w 5 (.mv l0)] []) .ret)),res:=[(5,none)]}
def aY:Fn:={ nargs:=2,vars:=[0,1,2,3,4],body:=(.seq (.reg [w 2 (.bx v0 4),w 3 (.bx v1 4),w 4 (.mv (.b false))] []) (.seq (.reg [f 2 v2,g l0,f 1 v3,g l0,a 1 l2 l0,g l0,u (.un .not l0),m l0,y 0 true (.fa v2 3),y 1 true (.ld l0 1 false),y 2 true (.fa v3 2),y 3 true (.ld l0 1 false),y 4 true (.ia l2 l0 1),y 5 true (.ld l0 1 false),y 6 true (.un .not l0),u (.pk l7 l0 (.b false)),w 4 (.mv l0)] []) .ret)),res:=[(4,none)]}
def fD:Fn:={ nargs:=0,vars:=[0],body:=(.seq (.reg [w 0 (.al [.t (.int .i64 (0)),.t (.int .i64 (0)),.t (.int .i64 (0))] [])] []) (.seq (.reg [u (.bd [.t (.int .i64 (0)),.t (.int .i64 (0)),.t (.int .i64 (0))] [(0,1,.i 2),(1,1,.i 3),(2,1,.i 4)]),u (.st v0 l0 3 [])] []) .ret)),res:=[(0,some (3,true))]}
def ch:Fn:={ nargs:=2,vars:=[0,1,2,3,4],body:=(.seq (.reg [w 2 (.bx v0 2),w 3 (.bx v1 2),w 4 (.mv (.b false))] []) (.seq (.reg [f 0 v2,g l0,f 0 v3,g l0,u (.bin .lss l2 l0),m l0,y 0 false (.fa v2 0),y 1 false (.ld l0 1 false),y 2 false (.fa v3 0),y 3 false (.ld l0 1 false),y 4 false (.bin .eql l2 l0),y 5 false (.mv l0),y 0 true (.fa v2 1),y 1 true (.ld l0 1 false),y 2 true (.fa v3 1),y 3 true (.ld l0 1 false),y 4 true (.bin .lss l2 l0),y 11 false (.pk l5 l0 (.b false)),u (.pk (.l 12) (.b true) l0),w 4 (.mv l0)] []) .ret)),res:=[(4,none)]}
end Go.Ev.K
namespace Go.Ev
class kV [Lib]:Prop where
 aZ:Lib.fs N.ae=some K.ae
 fm:Lib.fs N.ao=some K.ao
 fo:Lib.fs N.aY=some K.aY
 nN:Lib.fs N.fD=some K.fD
 ik:Lib.fs N.ch=some K.ch
namespace K
variable [Lib] [kV]
theorem aZ:Lib.fs N.ae=some K.ae:=kV.aZ
theorem fm:Lib.fs N.ao=some K.ao:=kV.fm
theorem fo:Lib.fs N.aY=some K.aY:=kV.fo
theorem nN:Lib.fs N.fD=some K.fD:=kV.nN
theorem ik:Lib.fs N.ch=some K.ch:=kV.ik
end K
end Go.Ev
namespace Go.Ev
open Go
variable [Lib] [bQ] [bC] [eE] [eB] [gU] [dW] [dR] [fP] [ez] [dF] [df] [iF] [gK] [nH] [kT] [gW] [gz] [kV]
structure Esc where
 safe:List Int
 bad:List Int
 shut:List Int
 limit:Int
instance : Dat Esc := ⟨⟨[], [], [], 0⟩⟩
abbrev Esc.e(e:Esc):T:= .agg [tL e.safe,tL e.bad,tL e.shut,tI e.limit]
structure Esc.ok(m:bj)(e:Esc):Prop where
 s:nB e.safe m.places.length=true
 b:nB e.bad m.places.length=true
 h:nB e.shut m.roads.length=true
 l0:0≤e.limit
 l1:e.limit≤2147483648
theorem Esc.ok.sl{m:bj}{e:Esc}(hm:m.ok)(h:e.ok m):e.safe.length≤64:=by
 have:=oS h.s;have:=hm.np;omega
theorem Esc.ok.bl{m:bj}{e:Esc}(hm:m.ok)(h:e.ok m):e.bad.length≤64:=by
 have:=oS h.b;have:=hm.np;omega
theorem Esc.ok.hl{m:bj}{e:Esc}(hm:m.ok)(h:e.ok m):e.shut.length≤128:=by
 have:=oS h.h;have:=hm.nr;omega
abbrev mH(m:bj)(k:Nat)(back:Bool):Int:=Ak m k back 2 3 4
theorem Sx{l s:Int}(l0:1≤l)(l1:l≤100000)(h:s=2∨s=3∨s=4):1≤(10*l+s-1).tdiv s∧(10*l+s-1).tdiv s≤500001:=by
 rcases h with rfl | rfl | rfl
 · rw[Int.tdiv_eq_ediv_of_nonneg (by omega)];omega
 · rw[Int.tdiv_eq_ediv_of_nonneg (by omega)];omega
 · rw[Int.tdiv_eq_ediv_of_nonneg (by omega)];omega
theorem jr{m:bj}(h:m.ok)(k:Nat)(hk:k<m.roads.length)(back:Bool):mH m k back= -1∨1≤mH m k back∧mH m k back≤500001:=by
 have l0:=(h.rs _ (b9 hk)).l0
 have l1:=(h.rs _ (b9 hk)).l1
 unfold mH Ak
 simp only
 split
 · exact .inl rfl
 · refine .inr (Sx l0 l1 ?_)
   repeat' split
   all_goals first | exact .inl rfl | exact .inr (.inl rfl) | exact .inr (.inr rfl)
theorem F6:bY 0 N.fD [] []=some (.t (.agg [tI 2,tI 3,tI 4]),[]):=by
 refine aX K.nN rfl ?_
 simp (disch:=omega) only[go_sem,K.fD,↓reduceIte,Nat.reduceAdd,Nat.reduceSub]
theorem kI{m:bj}(h:m.ok)(k:Nat)(hk:k<m.roads.length)(back:Bool):bY 0 N.dM [.t m.e,I k,B back] []=some (I (mH m k back),[]):=by
 refine aX K.nM rfl ?_
 have hv:=lE h
 have hw:=KQ h k hk back 2 3 4 (by omega) (by omega) (by omega) (by omega) (by omega) (by omega)
 have hs:=F6
 have nr:=h.nr
 obtain⟨places,roads⟩:=m
 simp only at*
 simp (disch:=omega) only[go_sem,K.dM,↓reduceIte,hv,hw,hs,Nat.reduceAdd,Nat.reduceSub]
theorem lT{m:bj}(hm:m.ok){e:Esc}(he:e.ok m):bY 0 N.dg [.t m.e,.t e.e] []=some (B true,[]):=by
 refine aX K.lM rfl ?_
 have hv:=lE hm
 have r1:=lH e.safe 0 (m.places.length-1) (by have:=he.sl hm;omega)
 have r2:=lH e.bad 0 (m.places.length-1) (by have:=he.bl hm;omega)
 have r3:=lH e.shut 0 (m.roads.length-1) (by have:=he.hl hm;omega)
 rw[sA,he.s]at r1
 rw[sA,he.b]at r2
 rw[sA,he.h]at r3
 have r4:=Rq e.limit 0 2147483648
 have:=he.l0
 have:=he.l1
 have np:=hm.np
 have nr:=hm.nr
 rw[decide_eq_true (by omega)]at r4
 obtain⟨places,roads⟩:=m
 obtain⟨safe,bad,shut,limit⟩:=e
 simp only at*
 simp (disch:=omega) only[go_sem,K.dg,↓reduceIte,hv,r1,r2,r3,r4,Nat.reduceAdd,Nat.reduceSub]
theorem wT{m:bj}(hm:m.ok){e:Esc}(he:e.ok m)(p:Nat)(hp:p<m.places.length):bY 0 N.ee [.t m.e,.t e.e,I p] []=some (B true,[]):=by
 refine aX K.lQ rfl ?_
 have hv:=lT hm he
 have r4:=Rq p 0 (m.places.length-1)
 have np:=hm.np
 rw[decide_eq_true (by omega)]at r4
 obtain⟨places,roads⟩:=m
 obtain⟨safe,bad,shut,limit⟩:=e
 simp only at*
 simp (disch:=omega) only[go_sem,K.ee,↓reduceIte,hv,r4,Nat.reduceAdd,Nat.reduceSub]
theorem F7(x y:Lab):bY 0 N.ch [.t (.agg [tI x.t,tI x.r]),.t (.agg [tI y.t,tI y.r])] []=some (B (kC x y),[]):=by
 refine aX K.ik rfl ?_
 obtain⟨a,b⟩:=x
 obtain⟨c,d⟩:=y
 unfold kC
 simp only
 by_cases c1:a<c<;>by_cases c2:a=c<;>by_cases c3:b<d
 all_goals simp (disch:=omega) only[go_sem,K.ch,↓reduceIte,c1,c2,c3,decide_true,decide_false,Bool.or_true,Bool.or_false,Bool.and_true,Bool.and_false,Bool.true_or,Bool.false_or,Bool.and_self,Bool.or_self,Int.lt_irrefl,Nat.reduceAdd,Nat.reduceSub]
abbrev Edge.e(e:Edge):T:= .agg [tI e.r,tI e.a,tI e.b,tI e.t]
abbrev Lab.e(x:Lab):T:= .agg [tI x.t,tI x.r]
abbrev iL(E:List Edge)(ep:Nat):Obj:= .arr 4 false ep ((E.map Edge.e).map .t)
abbrev fq(l:List Bool):Obj:= .arr 1 false 0 ((l.map T.bool).map .t)
abbrev Eo(L:List Lab):Obj:= .arr 2 false 0 ((L.map Lab.e).map .t)
abbrev sT(i:Nat)(E:List Edge)(ep n:Nat):List D:=[I n,.ref i ep E.length,.ref (i+1) 0 n,.ref (i+2) 0 n]
def uB(sf bd:List Bool)(e:Edge):Bool:= !(nth sf e.a)&& !(nth bd e.b)
theorem wU(E:List Edge)(sf bd:List Bool)(ep n:Nat)(hs:sf.length=n)(hb:bd.length=n)(hn:n≤64)(e:Edge)(he:e.ok n):
 bY 0 N.aY [.agg (sT 0 E ep n),.t e.e] [iL E ep,fq sf,fq bd]=some (B (uB sf bd e),[iL E ep,fq sf,fq bd]):=by
 refine aX K.fo rfl ?_
 obtain⟨r,a,b,t⟩:=e
 obtain⟨h1,h2,h3,h4⟩:=he
 simp only at h1 h2 h3 h4
 unfold uB
 simp only
 cases hx:nth sf a<;>cases hy:nth bd b
 all_goals simp (disch:=omega) only[go_sem,K.aY,↓reduceIte,hx,hy,Bool.not_true,Bool.not_false,Bool.false_and,Bool.true_and,Nat.reduceAdd,Nat.reduceSub]
def jJ(F:Int)(sf:List Bool)(n j:Nat):List Lab:=(List.range n).map fun p=>if decide (p<j)&& !(nth sf p)then⟨F,0⟩else⟨0,0⟩
theorem j8(F:Int)(sf:List Bool)(n j:Nat):(jJ F sf n j).length=n:=by simp[jJ]
theorem gZ(F:Int)(sf:List Bool)(n j:Nat){p:Nat}(hp:p<n):nth (jJ F sf n j) p=if decide (p<j)&& !(nth sf p)then⟨F,0⟩else⟨0,0⟩:=by
 refine m6 ?_
 unfold jJ
 rw[List.getElem?_map,List.getElem?_range hp]
 rfl
theorem AL(F:Int)(sf:List Bool)(n:Nat):(jJ F sf n 0).map Lab.e=List.replicate n (.agg [tI 0,tI 0]):=by
 unfold jJ
 refine List.ext_getElem? fun i=>?_
 simp only[List.getElem?_map,List.getElem?_replicate]
 by_cases hi:i<n
 · rw[List.getElem?_range hi];simp[hi]
 · rw[List.getElem?_eq_none (by simpa using hi)];simp[hi]
theorem AM{F:Int}{sf:List Bool}{n j:Nat}(hj:j<n)(h:nth sf j=false):jJ F sf n (j+1)=(jJ F sf n j).set j ⟨F,0⟩:=by
 refine List.ext_getElem? fun i=>?_
 by_cases hi:i=j
 · subst hi
   rw[List.getElem?_set_self (by rw[j8];exact hj),gL (by rw[j8];exact hj),gZ F sf n _ hj]
   simp[h]
 · rw[List.getElem?_set_ne (by omega)]
   unfold jJ
   rw[List.getElem?_map,List.getElem?_map]
   by_cases hn:i<n
   · rw[List.getElem?_range hn]
     have:(decide (i<j+1))=decide (i<j):=decide_eq_decide.2 (by omega)
     simp only[Option.map_some,this]
   · rw[List.getElem?_eq_none (by simpa using hn)];rfl
theorem AN{F:Int}{sf:List Bool}{n j:Nat}(h:nth sf j=true):jJ F sf n (j+1)=jJ F sf n j:=by
 unfold jJ
 refine List.map_congr_left fun p hp=>?_
 by_cases c:p=j
 · subst c;simp[h]
 · have:(decide (p<j+1))=decide (p<j):=by
    by_cases d:p<j
    · simp[d];omega
    · simp[d];omega
   rw[this]
theorem Dl(L:List Lab)(j:Nat)(a b:Int):(List.map D.t (List.map Lab.e L)).set j (D.t (T.agg [T.int .i64 a,T.int .i64 b]))=List.map D.t (List.map Lab.e (L.set j ⟨a,b⟩)):=by
 simp only[List.map_set]
abbrev il:Int:=1152921504606846976
theorem F8(E:List Edge)(sf bd:List Bool)(ep n:Nat)(hs:sf.length=n)(hb:bd.length=n)(hn:n≤64)(z0 z2 z4 z5 z6 z7 z10 z11 z12:D):
 exS bY K.iv ⟨[z0,.bp 3 0,z2,.ref 4 0 n,z4,z5,z6,z7,I n,I 0,z10,z11,z12],[iL E ep,fq sf,fq bd,.box (sT 0 E ep n),Eo (jJ il sf n 0)]⟩=
  some (.exit 0,⟨[.und,.bp 3 0,.und,.ref 4 0 n,.und,.und,.und,.und,I n,I n,.und,.und,.und],[iL E ep,fq sf,fq bd,.box (sT 0 E ep n),Eo (jJ il sf n n)]⟩):=by
 refine ei (fun j=>⟨[.und,.bp 3 0,.und,.ref 4 0 n,.und,.und,.und,.und,I n,I j,.und,.und,.und],[iL E ep,fq sf,fq bd,.box (sT 0 E ep n),Eo (jJ il sf n j)]⟩) n rfl ?_ ?_ (by simp)
 · intro j hj
   have ln:=j8 il sf n j
   have hx:=gZ il sf n j hj
   rw[decide_eq_false (Nat.lt_irrefl j)]at hx
   simp only[Bool.false_and,Bool.false_eq_true,↓reduceIte]at hx
   cases hc:nth sf j with
   | true=>
     rw[AN hc]
     simp (disch:=omega) only[go_sem,K.dB,↓reduceIte,hc,Bool.not_true,Nat.reduceAdd,Nat.reduceSub]
   | false=>
     rw[AM hj hc]
     generalize jJ il sf n j=L at*
     simp (disch:=omega) only[go_sem,K.dB,↓reduceIte,hc,hx,Bool.not_false,Dl,Nat.reduceAdd,Nat.reduceSub]
 · have ln:=j8 il sf n n
   simp (disch:=omega) only[go_sem,K.dB,↓reduceIte,Nat.reduceAdd,Nat.reduceSub]
theorem Dm(F:Int)(u:Edge→Bool)(E:List Edge)(L:List Lab)(c:Bool)(j:Nat):pZ F u E L c (j+1)=(Ei F u (pZ F u E L c j).1 (nth E j),(pZ F u E L c j).2||AF F u (pZ F u E L c j).1 (nth E j)):=rfl
theorem F9(E:List Edge)(sf bd:List Bool)(ep n:Nat)(hs:sf.length=n)(hb:bd.length=n)(hn:n≤64)(hE:∀e∈E,e.ok n)(hl:E.length≤1000)(L:List Lab)(hL:AG il n L)(z0 z2 z4 z6 z7 z8 z9:D):
 exS bY K.iw ⟨[z0,.bp 3 0,z2,.ref 4 0 n,z4,B false,z6,z7,z8,z9,.ref 0 ep E.length,I E.length,I 0],[iL E ep,fq sf,fq bd,.box (sT 0 E ep n),Eo L]⟩=
  some (.exit 4,⟨[.und,.bp 3 0,.und,.ref 4 0 n,.und,B (pZ il (uB sf bd) E L false E.length).2,.und,.und,.und,.und,.ref 0 ep E.length,I E.length,I E.length],[iL E ep,fq sf,fq bd,.box (sT 0 E ep n),Eo (pZ il (uB sf bd) E L false E.length).1]⟩):=by
 refine ei (fun j=>⟨[.und,.bp 3 0,.und,.ref 4 0 n,.und,B (pZ il (uB sf bd) E L false j).2,.und,.und,.und,.und,.ref 0 ep E.length,I E.length,I j],[iL E ep,fq sf,fq bd,.box (sT 0 E ep n),Eo (pZ il (uB sf bd) E L false j).1]⟩) E.length rfl ?_ ?_ (by simp)
 · intro j hj
   rw[Dm]
   have li:=(ui hE hL (u:=uB sf bd) j (by omega)).1
   generalize (pZ il (uB sf bd) E L false j).1=M at*
   generalize (pZ il (uB sf bd) E L false j).2=c at*
   have he:=hE _ (b9 hj)
   have us:=wU E sf bd ep n hs hb hn _ he
   unfold Ei AF lL
   generalize he':nth E j=e at*
   generalize uB sf bd e=ub at*
   obtain⟨er,a,b,t⟩:=e
   obtain⟨h1,h2,h3,h4⟩:=he
   simp only at h1 h2 h3 h4
   have ls:=F7 ⟨(nth M b).t+t,(nth M b).r+1⟩ (nth M a)
   have q1:=li.t0 b h2
   have q2:=li.t1 b h2
   have q3:=li.r0 b h2
   have q4:=li.r1 b h2
   have ml:=li.l
   generalize hx:nth M a=x at*
   generalize hy:nth M b=y at*
   obtain⟨xt,xr⟩:=x
   obtain⟨yt,yr⟩:=y
   simp only at*
   generalize hlv:kC ⟨yt+t,yr+1⟩ ⟨xt,xr⟩=lv at*
   have e1:(M.map Lab.e)[a]?=some (Lab.e ⟨xt,xr⟩):=by rw[← hx];exact ek _ (by omega)
   cases ub with
   | false=>
     simp (disch:=omega) only[go_sem,K.b7,↓reduceIte,us,ls,e1,hx,hy,he',Bool.false_and,Bool.or_false,Nat.reduceAdd,Nat.reduceSub]
   | true=>
     by_cases hf:yt<1152921504606846976
     · cases lv with
       | false=>
         simp (disch:=omega) only[go_sem,K.b7,↓reduceIte,us,ls,e1,hx,hy,he',hf,decide_true,Bool.and_false,Bool.true_and,Bool.or_false,Nat.reduceAdd,Nat.reduceSub]
       | true=>
         simp (disch:=omega) only[go_sem,K.b7,↓reduceIte,us,ls,e1,hx,hy,he',hf,decide_true,Bool.and_true,Bool.true_and,Bool.or_true,Dl,Nat.reduceAdd,Nat.reduceSub]
     · simp (disch:=omega) only[go_sem,K.b7,↓reduceIte,us,ls,e1,hx,hy,he',hf,decide_false,Bool.and_false,Bool.false_and,Bool.or_false,Nat.reduceAdd,Nat.reduceSub]
 · simp (disch:=omega) only[go_sem,K.b7,↓reduceIte,Nat.reduceAdd,Nat.reduceSub]
theorem yi(F:Int)(hF:0≤F)(sf:List Bool)(n j:Nat):AG F n (jJ F sf n j) where
 l:=j8 F sf n j
 t0:=fun p hp=>by rw[gZ F sf n j hp];split<;>simp<;>omega
 t1:=fun p hp=>by rw[gZ F sf n j hp];split<;>simp<;>omega
 r0:=fun p hp=>by rw[gZ F sf n j hp];split<;>simp
 r1:=fun p hp=>by rw[gZ F sf n j hp];split<;>simp<;>omega
def iH(E:List Edge)(sf bd:List Bool)(n:Nat):List Lab:=Db il (uB sf bd) E (jJ il sf n n)
theorem Ga(E:List Edge)(sf bd:List Bool)(ep n:Nat)(hs:sf.length=n)(hb:bd.length=n)(hn:n≤64)(hE:∀e∈E,e.ok n)(hl:E.length≤1000)(z0 z2 z4 z6 z7 z8 z9 z10 z11 z12:D):
 exS bY K.iy ⟨[z0,.bp 3 0,z2,.ref 4 0 n,z4,B true,z6,z7,z8,z9,z10,z11,z12],[iL E ep,fq sf,fq bd,.box (sT 0 E ep n),Eo (jJ il sf n n)]⟩=
  some (.exit 2,⟨[.und,.bp 3 0,.und,.ref 4 0 n,.und,B false,.und,.und,.und,.und,.und,.und,.und],[iL E ep,fq sf,fq bd,.box (sT 0 E ep n),Eo (iH E sf bd n)]⟩):=by
 refine(Ah (fun L c=>⟨[.und,.bp 3 0,.und,.ref 4 0 n,.und,B c,.und,.und,.und,.und,.und,.und,.und],[iL E ep,fq sf,fq bd,.box (sT 0 E ep n),Eo L]⟩)
  (fun L=>(.exit 2,⟨[.und,.bp 3 0,.und,.ref 4 0 n,.und,B false,.und,.und,.und,.und,.und,.und,.und],[iL E ep,fq sf,fq bd,.box (sT 0 E ep n),Eo L]⟩))
  (fun L=>pZ il (uB sf bd) E L false E.length) (AG il n) (FQ il) ?_ ?_ ?_ _ (yi il (by decide) sf n n) rfl).1
 · intro L hL
   have h:=ui hE hL (u:=uB sf bd) E.length (Nat.le_refl _)
   exact⟨h.1,h.2.2.1⟩
 · intro L hL
   have l3:=F9 E sf bd ep n hs hb hn hE hl L hL
   have ln:=hL.l
   simp (disch:=omega) only[go_sem,K.eT,↓reduceIte,l3,Nat.reduceAdd,Nat.reduceSub]
 · intro L hL
   refine⟨?_,by simp⟩
   simp (disch:=omega) only[go_sem,K.eT,↓reduceIte,Nat.reduceAdd,Nat.reduceSub]
theorem Dn(E:List Edge)(sf bd:List Bool)(n:Nat)(hE:∀e∈E,e.ok n):(iH E sf bd n).length=n:=by
 unfold iH Db
 exact(uh (AG il n) (fun l h=>(ui hE h (u:=uB sf bd) E.length (Nat.le_refl _)).1) _ _ (yi il (by decide) sf n n)).l
theorem Gb(E:List Edge)(sf bd:List Bool)(ep n:Nat)(hs:sf.length=n)(hb:bd.length=n)(hn:n≤64)(hE:∀e∈E,e.ok n)(hl:E.length≤1000):
 bY 0 N.bq [.agg (sT 0 E ep n)] [iL E ep,fq sf,fq bd]=some (.t (.sl ((iH E sf bd n).map Lab.e)),[iL E ep,fq sf,fq bd]):=by
 refine aX K.fI rfl ?_
 have l1:=F8 E sf bd ep n hs hb hn
 have l2:=Ga E sf bd ep n hs hb hn hE hl
 have ln:=Dn E sf bd n hE
 have l0:=j8 il sf n n
 generalize iH E sf bd n=r at*
 have z:=AL il sf n
 have z2:List.replicate n (D.t (T.agg [tI 0,tI 0]))=((jJ il sf n 0).map Lab.e).map D.t:=by rw[z,List.map_replicate]
 simp (disch:=omega) only[go_sem,K.bq,↓reduceIte,l1,l2,z2,Nat.reduceAdd,Nat.reduceSub]
theorem zD(E:List Edge)(sf bd:List Bool)(ep n:Nat)(hs:sf.length=n)(hb:bd.length=n)(hn:n≤64)(L:List Lab)(hL:AG il n L)(p:Nat)(hp:p<n)(e:Edge)(he:e.ok n):
 bY 0 N.ao [.t e.e,.bp 0 0,.bp 1 0,.bp 2 0] [.box [I p],.box (sT 3 E ep n),.box [.t (.sl (L.map Lab.e))],iL E ep,fq sf,fq bd]=
  some (B (pb (uB sf bd) L p e),[.box [I p],.box (sT 3 E ep n),.box [.t (.sl (L.map Lab.e))],iL E ep,fq sf,fq bd]):=by
 refine aX K.fm rfl ?_
 have us:=wU E sf bd ep n hs hb hn e he
 unfold pb
 obtain⟨r,a,b,t⟩:=e
 obtain⟨h1,h2,h3,h4⟩:=he
 simp only at h1 h2 h3 h4
 simp only at*
 generalize uB sf bd ⟨r,a,b,t⟩=ub at*
 have ml:=hL.l
 have q1:=hL.t0 b h2
 have q2:=hL.t1 b h2
 have q3:=hL.r0 b h2
 have q4:=hL.r1 b h2
 have w1:=hL.t0 p hp
 have w2:=hL.t1 p hp
 have w3:=hL.r0 p hp
 have w4:=hL.r1 p hp
 have e1:(L.map Lab.e)[b]?=some (nth L b).e:=ek _ (by omega)
 have e2:(L.map Lab.e)[p]?=some (nth L p).e:=ek _ (by omega)
 generalize nth L b=x at*
 generalize nth L p=y at*
 obtain⟨xt,xr⟩:=x
 obtain⟨yt,yr⟩:=y
 simp only[Lab.mk.injEq]at*
 have fc:il=1152921504606846976:=rfl
 have v1:IntKind.i64.wrap (yt-t)=yt-t:=rY (by omega) (by omega)
 have v2:IntKind.i64.wrap (yr-1)=yr-1:=rY (by omega) (by omega)
 by_cases c1:a=p
 · subst c1
   cases ub with
   | false=>simp (disch:=omega) only[go_sem,K.ao,↓reduceIte,us,Bool.and_false,Bool.false_and,decide_true,Bool.true_and,Nat.reduceAdd,Nat.reduceSub]
   | true=>
     by_cases c2:xt=yt-t<;>by_cases c3:xr=yr-1
     all_goals simp (disch:=omega) only[go_sem,K.ao,↓reduceIte,us,e1,e2,v1,v2,c2,c3,decide_true,Bool.and_self,decide_false,Bool.and_false,Bool.true_and,and_self,and_true,and_false,Nat.reduceAdd,Nat.reduceSub]
 · simp (disch:=omega) only[go_sem,K.ao,↓reduceIte,us,c1,decide_false,Bool.false_and,Nat.reduceAdd,Nat.reduceSub]
theorem AO(E:List Edge)(sf bd:List Bool)(ep n:Nat)(hs:sf.length=n)(hb:bd.length=n)(hn:n≤64)(hE:∀e∈E,e.ok n)(hl:E.length≤1000)(L:List Lab)(hL:AG il n L)(p:Nat)(hp:p<n):
 bY 0 N.ae [.ref 0 ep E.length,.fn N.ao [.bp 1 0,.bp 2 0,.bp 3 0]] [iL E ep,.box [I p],.box [I n,.ref 0 ep E.length,.ref 4 0 n,.ref 5 0 n],.box [.t (.sl (L.map Lab.e))],fq sf,fq bd]=
  some (I (match (List.range E.length).find? (fun j=>pb (uB sf bd) L p (nth E j))with | some j=>(j:Int) | none=> -1),[iL E ep,.box [I p],.box [I n,.ref 0 ep E.length,.ref 4 0 n,.ref 5 0 n],.box [.t (.sl (L.map Lab.e))],fq sf,fq bd]):=by
 refine aX K.aZ rfl ?_
 have loop:∀z2 z3:D,exS bY K.bK ⟨[.ref 0 ep E.length,.fn N.ao [.bp 1 0,.bp 2 0,.bp 3 0],z2,z3,I E.length,I 0],[iL E ep,.box [I p],.box [I n,.ref 0 ep E.length,.ref 4 0 n,.ref 5 0 n],.box [.t (.sl (L.map Lab.e))],fq sf,fq bd]⟩=
  some (match (List.range E.length).find? (fun j=>pb (uB sf bd) L p (nth E j))with
   | some j=>(.ret,⟨[.ref 0 ep E.length,.fn N.ao [.bp 1 0,.bp 2 0,.bp 3 0],I j,I j,I E.length,I j],[iL E ep,.box [I p],.box [I n,.ref 0 ep E.length,.ref 4 0 n,.ref 5 0 n],.box [.t (.sl (L.map Lab.e))],fq sf,fq bd]⟩)
   | none=>(.exit 0,⟨[.ref 0 ep E.length,.fn N.ao [.bp 1 0,.bp 2 0,.bp 3 0],.und,.und,I E.length,I E.length],[iL E ep,.box [I p],.box [I n,.ref 0 ep E.length,.ref 4 0 n,.ref 5 0 n],.box [.t (.sl (L.map Lab.e))],fq sf,fq bd]⟩)):=by
  intro z2 z3
  refine jV (fun j=>⟨[.ref 0 ep E.length,.fn N.ao [.bp 1 0,.bp 2 0,.bp 3 0],.und,.und,I E.length,I j],[iL E ep,.box [I p],.box [I n,.ref 0 ep E.length,.ref 4 0 n,.ref 5 0 n],.box [.t (.sl (L.map Lab.e))],fq sf,fq bd]⟩) E.length (fun j=>pb (uB sf bd) L p (nth E j)) _ _ rfl ?_ ?_ ?_ (by simp)
  · intro j hj hp'
    have b1:=zD E sf bd ep n hs hb hn L hL p hp _ (hE _ (b9 hj))
    rw[hp']at b1
    simp (disch:=omega) only[go_sem,K.aB,↓reduceIte,b1,Nat.reduceAdd,Nat.reduceSub]
  · intro j hj hp'
    have b1:=zD E sf bd ep n hs hb hn L hL p hp _ (hE _ (b9 hj))
    rw[hp']at b1
    refine⟨?_,by simp⟩
    simp (disch:=omega) only[go_sem,K.aB,↓reduceIte,b1,Nat.reduceAdd,Nat.reduceSub]
  · simp (disch:=omega) only[go_sem,K.aB,↓reduceIte,Nat.reduceAdd,Nat.reduceSub]
 cases hf:(List.range E.length).find? (fun j=>pb (uB sf bd) L p (nth E j))with
 | some j=>
   rw[hf]at loop
   simp (disch:=omega) only[go_sem,K.ae,↓reduceIte,loop,Nat.reduceAdd,Nat.reduceSub]
 | none=>
   rw[hf]at loop
   simp (disch:=omega) only[go_sem,K.ae,↓reduceIte,loop,Nat.reduceAdd,Nat.reduceSub]
def U2(u:Edge→Bool)(E:List Edge)(L:List Lab)(p:Nat):Int:=match (List.range E.length).find? (fun j=>pb u L p (nth E j))with | some j=>(j:Int) | none=> -1
theorem lU:∀ {i j:Nat},i≠j→eqB i j=false
 | 0,0,h=>absurd rfl h
 | 0,_+1,_=>rfl
 | _+1,0,_=>rfl
 | i+1,j+1,h=>lU (i:=i) (j:=j) (by omega)
theorem Gc(E:List Edge)(sf bd:List Bool)(ep n:Nat)(hs:sf.length=n)(hb:bd.length=n)(hn:n≤64)(hE:∀e∈E,e.ok n)(hl:E.length≤1000)(L:List Lab)(hL:AG il n L)(p:Nat)(hp:p<n)
 (H:ab) (i:Nat) (h0:H[0]?=some (iL E ep)) (h1:H[1]?=some (fq sf)) (h2:H[2]?=some (fq bd)) (h3:H[3]?=some (.box (sT 0 E ep n))) (h6:H[6]?=some (.box [.t (.sl (L.map Lab.e))])) (hi:H[i]?=some (.box [I p])) (i6:7≤i):
 y6 H bY N.ae 0 [0] [.ref 0 ep E.length,.fn N.ao [.bp i 0,.bp 3 0,.bp 6 0]]=some (I (U2 (uB sf bd) E L p),H):=by
 have ix:=AO E sf bd ep n hs hb hn hE hl L hL p hp
 have a0:eqB i 0=false:=lU (by omega)
 have b0:eqB 0 i=false:=lU (by omega)
 have a1:eqB i 1=false:=lU (by omega)
 have b1:eqB 1 i=false:=lU (by omega)
 have a2:eqB i 2=false:=lU (by omega)
 have b2:eqB 2 i=false:=lU (by omega)
 have a3:eqB i 3=false:=lU (by omega)
 have b3:eqB 3 i=false:=lU (by omega)
 have a6:eqB i 6=false:=lU (by omega)
 have b6:eqB 6 i=false:=lU (by omega)
 have sel:reach H 3 (cK [] (qO 8 [.ref 0 ep E.length,.fn N.ao [.bp i 0,.bp 3 0,.bp 6 0]]))=[0,i,3,6,1,2]:=by
  have s0:cK [] (qO 8 [.ref 0 ep E.length,.fn N.ao [.bp i 0,.bp 3 0,.bp 6 0]])=[0,i,3,6]:=by
   simp (disch:=omega) only[go_sem,a0,a1,a2,a3,a6,b0,b1,b2,b3,b6]
  have s1:cK [0,i,3,6] (iM H [0,i,3,6])=[0,i,3,6,1,2]:=by
   have:iM H [0,i,3,6]=[0,1,2]:=by
    simp only[iM,List.flatMap_cons,List.flatMap_nil,h0,h3,h6,hi]
    rw[show List.flatMap (ids depth) (iL E ep).ds=[]from qq 8 _]
    rfl
   rw[this]
   simp (disch:=omega) only[go_sem,a0,a1,a2,a3,a6,b0,b1,b2,b3,b6]
  have s2:cK [0,i,3,6,1,2] (iM H [0,i,3,6,1,2])=[0,i,3,6,1,2]:=by
   have:iM H [0,i,3,6,1,2]=[0,1,2]:=by
    simp only[iM,List.flatMap_cons,List.flatMap_nil,h0,h1,h2,h3,h6,hi]
    rw[show List.flatMap (ids depth) (iL E ep).ds=[]from qq 8 _,show List.flatMap (ids depth) (fq sf).ds=[]from qq 8 _,show List.flatMap (ids depth) (fq bd).ds=[]from qq 8 _]
    rfl
   rw[this]
   simp (disch:=omega) only[go_sem,a0,a1,a2,a3,a6,b0,b1,b2,b3,b6]
  simp only[s0,reach,s1,s2]
 have pk:pick H [0,i,3,6,1,2]=some [iL E ep,.box [I p],.box (sT 0 E ep n),.box [.t (.sl (L.map Lab.e))],fq sf,fq bd]:=by
  simp only[pick,h0,h1,h2,h3,h6,hi,Option.bind_some,Option.map_some]
 have ar:jM H [0] 0 [.ref 0 ep E.length,.fn N.ao [.bp i 0,.bp 3 0,.bp 6 0]]=some [.ref 0 ep E.length,.fn N.ao [.bp i 0,.bp 3 0,.bp 6 0]]:=by
  simp (disch:=omega) only[go_sem]
 have fz:bB H [0] 0 [.ref 0 ep E.length,.fn N.ao [.bp i 0,.bp 3 0,.bp 6 0]]=[]:=by
  simp (disch:=omega) only[go_sem]
 have rn:bn (ren (idxOf [0,i,3,6,1,2]) 8) [.ref 0 ep E.length,.fn N.ao [.bp i 0,.bp 3 0,.bp 6 0]]=some [.ref 0 ep E.length,.fn N.ao [.bp 1 0,.bp 2 0,.bp 3 0]]:=by
  simp (disch:=omega) only[go_sem,a0,a1,a2,a3,a6,b0,b1,b2,b3,b6]
 rw[y9,za,ar,Option.bind_some,zb,sel,zc,rn,Option.bind_some,fz,zd]
 simp only[pins]
 rw[pk,Option.bind_some,ze]
 simp (disch:=omega) only[go_sem,a0,a1,a2,a3,a6,b0,b1,b2,b3,b6,Nat.reduceAdd,ix]
 rw[ku h0,ku hi,ku h3,ku h6,ku h1,ku h2]
 rfl
abbrev tf(E:List Edge)(sf bd:List Bool)(ep n:Nat)(L:List Lab)(W M:List Int)(Tl:ab)(p:Nat):ab:=
 iL E ep::fq sf::fq bd:: .box (sT 0 E ep n)::Bj W::Bj []:: .box [.t (.sl (L.map Lab.e))]::Bj M::(Tl++[.box [I p]])
abbrev yj(p0:Nat)(W M:List Int)(Tl:ab):List D:=[.und,I p0,.bp 3 0,.ref 4 0 W.length,.und,.ref 7 0 M.length,.und,.bp 6 0,.bp (Tl.length+8) 0,.und,.und]
theorem AP(E:List Edge)(sf bd:List Bool)(ep n:Nat)(hs:sf.length=n)(hb:bd.length=n)(hn:n≤64)(hE:∀e∈E,e.ok n)(hl:E.length≤1000)(L:List Lab)(hL:AG il n L)
 (p0 p:Nat) (hp:p<n) (W M:List Int) (hW:W.length≤1000000000) (hM:M.length≤1000000000) (Tl:ab) (hc:nth sf p=false) (j:Nat) (hj:j<E.length) (hx:U2 (uB sf bd) E L p=(j:Int)):
 iQ false [0,4,6,9,10] (tf E sf bd ep n L W M Tl p).length (exS bY K.cm ⟨yj p0 W M Tl,tf E sf bd ep n L W M Tl p⟩)=some ⟨yj p0 (W++[((nth E j).r:Int)]) (M++[((nth E j).b:Int)]) (Tl++[.box [I (nth E j).b]]),tf E sf bd ep n L (W++[((nth E j).r:Int)]) (M++[((nth E j).b:Int)]) (Tl++[.box [I (nth E j).b]]) (nth E j).b⟩:=by
 have oi:=Gc E sf bd ep n hs hb hn hE hl L hL p hp (tf E sf bd ep n L W M Tl p) (Tl.length+8) rfl rfl rfl rfl rfl (by simp) (by omega)
 rw[hx]at oi
 have hG:∀x:Obj,(Tl++[x])[Tl.length]?=some x:=fun x=>by simp
 have hS:∀x y:Obj,(Tl++[x]).set Tl.length y=Tl++[y]:=fun x y=>by simp
 obtain⟨e1,e2,e3,e4⟩:=hE _ (b9 hj)
 generalize hy:nth E j=y at*
 obtain⟨r,a,b,t⟩:=y
 simp only at*
 have hG2:∀x y:Obj,(Tl++[x]++[y])[Tl.length+1]?=some y:=fun x y=>by simp
 have hS2:∀x y z:Obj,(Tl++[x]++[y]).set (Tl.length+1) z=Tl++[x]++[z]:=fun x y z=>by simp
 simp (disch:=omega) only[go_sem,K.cm,↓reduceIte,Nat.reduceAdd,Nat.reduceSub,hG,hS,hG2,hS2,hc,oi,hy,Bool.not_false]
 simp only[List.map_append,List.map_cons,List.map_nil,List.length_append,List.length_cons,List.length_nil,Nat.add_assoc,Nat.reduceAdd,Int.natCast_add]
 simp only[yj,tf,Bj,List.map_append,List.map_cons,List.map_nil,List.length_append,List.length_cons,List.length_nil,Nat.add_assoc,Nat.reduceAdd]
theorem AQ(l:List Edge):(List.range l.length).map (nth l)=l:=by
 refine List.ext_getElem? fun i=>?_
 rw[List.getElem?_map]
 by_cases hi:i<l.length
 · rw[List.getElem?_range hi,gL hi];rfl
 · rw[List.getElem?_eq_none (by simpa using hi),List.getElem?_eq_none (by omega)];rfl
theorem Dp{u:Edge→Bool}{E:List Edge}{L:List Lab}{p:Nat}{e:Edge}(h:Dd u E L p=some e):∃j:Nat,U2 u E L p=(j:Int)∧j<E.length∧nth E j=e:=by
 unfold Dd at h
 rw[← AQ E,List.find?_map]at h
 unfold U2
 cases hf:(List.range E.length).find? (fun j=>pb u L p (nth E j))with
 | none=>
   have:(List.range E.length).find? (pb u L p ∘ nth E)=none:=hf
   rw[this]at h
   cases h
 | some j=>
   have:(List.range E.length).find? (pb u L p ∘ nth E)=some j:=hf
   rw[this]at h
   simp only[Option.map_some,Option.some.injEq]at h
   exact⟨j,rfl,List.mem_range.1 (List.mem_of_find?_eq_some hf),h⟩
abbrev pe(sf:List Bool)(p:Nat):Bool:=nth sf p
theorem Dq(E:List Edge)(sf bd:List Bool)(ep n:Nat)(hs:sf.length=n)(hb:bd.length=n)(hn:n≤64)(hE:∀e∈E,e.ok n)(hl:E.length≤1000)(L:List Lab)(hZ:FR il n E (uB sf bd) (pe sf) L)
 (p0:Nat):∀(k p:Nat) (W M:List Int) (Tl:ab),p<n→(nth L p).t<il→(nth L p).r.toNat≤k→W.length+k≤1000000000→M.length+k≤1000000000→
 ∃(Tl':ab) (q:Nat),ju false [0,4,6,9,10] (exS bY K.cm) ⟨yj p0 W M Tl,tf E sf bd ep n L W M Tl p⟩=
  some (.exit 0,⟨yj p0 (W++(jD (pe sf) (uB sf bd) E L k p).map (fun e=>(e.r:Int))) (M++(jD (pe sf) (uB sf bd) E L k p).map (fun e=>(e.b:Int))) Tl',
   tf E sf bd ep n L (W++(jD (pe sf) (uB sf bd) E L k p).map (fun e=>(e.r:Int))) (M++(jD (pe sf) (uB sf bd) E L k p).map (fun e=>(e.b:Int))) Tl' q⟩):=by
 have done:∀(p:Nat) (W M:List Int) (Tl:ab),p<n→nth sf p=true→ju false [0,4,6,9,10] (exS bY K.cm) ⟨yj p0 W M Tl,tf E sf bd ep n L W M Tl p⟩=some (.exit 0,⟨yj p0 W M Tl,tf E sf bd ep n L W M Tl p⟩):=by
  intro p W M Tl hp hz
  refine fL ?_ (by simp)
  have hG:∀x:Obj,(Tl++[x])[Tl.length]?=some x:=fun x=>by simp
  have hS:∀x y:Obj,(Tl++[x]).set Tl.length y=Tl++[y]:=fun x y=>by simp
  simp (disch:=omega) only[go_sem,K.cm,↓reduceIte,Nat.reduceAdd,Nat.reduceSub,hG,hS,hz,Bool.not_true]
 intro k
 induction k with
 | zero=>
   intro p W M Tl hp hf hk hW hM
   have hz:nth sf p=true:=by
    by_cases hz:nth sf p=true
    · exact hz
    · obtain⟨e,_,e1,_,_,_,_,e5⟩:=mu hZ hE hp hf (by simpa using hz)
      have:=hZ.r0 e.b (hE e e1).2.1
      have:=hZ.r0 p hp
      omega
   refine⟨Tl,p,?_⟩
   simp only[jD,List.map_nil,List.append_nil]
   exact done p W M Tl hp hz
 | succ k ih=>
   intro p W M Tl hp hf hk hW hM
   by_cases hz:nth sf p=true
   · refine⟨Tl,p,?_⟩
     have:jD (pe sf) (uB sf bd) E L (k+1) p=[]:=by unfold jD;rw[if_pos hz]
     rw[this]
     simp only[List.map_nil,List.append_nil]
     exact done p W M Tl hp hz
   · obtain⟨e,e0,e1,e2,e3,e4,e5,e6⟩:=mu hZ hE hp hf (by simpa using hz)
     have br:=hZ.r0 e.b (hE e e1).2.1
     obtain⟨j,j0,j1,j2⟩:=Dp e0
     have rd:=AP E sf bd ep n hs hb hn hE hl L hZ.toAG p0 p hp W M (by omega) (by omega) Tl (by simpa using hz) j j1 j0
     rw[j2]at rd
     obtain⟨Tl',q,h⟩:=ih e.b (W++[(e.r:Int)]) (M++[(e.b:Int)]) (Tl++[.box [I e.b]]) (hE e e1).2.1 e4 (by omega) (by simp;omega) (by simp;omega)
     refine⟨Tl',q,?_⟩
     have:jD (pe sf) (uB sf bd) E L (k+1) p=e::jD (pe sf) (uB sf bd) E L k e.b:=by
      conv=>lhs;unfold jD
      rw[if_neg hz,e0]
     simpa only[this,List.map_cons,List.append_assoc,List.cons_append,List.nil_append]using jR rd h
theorem LR{F:Int}(hF:0≤F)(E:List Edge)(u:Edge→Bool)(sf:List Bool)(n:Nat):HQ F n E u (pe sf) (jJ F sf n n):=by
 refine⟨yi F hF sf n n,?_,?_⟩
 · intro p hp hz
   rw[gZ F sf n n hp]
   have:nth sf p=true:=hz
   rw[this,Bool.not_true,Bool.and_false]
   rfl
 · intro p hp hf
   left
   rw[gZ F sf n n hp]at hf
   show nth sf p=true
   cases hz:nth sf p with
   | true=>rfl
   | false=>
     rw[hz,decide_eq_true hp]at hf
     simp at hf
theorem yk{E:List Edge}{sf bd:List Bool}{n:Nat}(hE:∀e∈E,e.ok n):FR il n E (uB sf bd) (pe sf) (iH E sf bd n):=by
 refine FT hE ?_ (LR (by decide) E _ sf n)
 intro e _ hu
 unfold uB at hu
 simp only[Bool.and_eq_true,Bool.not_eq_true']at hu
 exact hu.1
def OV(E:List Edge)(sf bd:List Bool)(n p:Nat):List Edge:=jD (pe sf) (uB sf bd) E (iH E sf bd n) (nth (iH E sf bd n) p).r.toNat p
def Gd(E:List Edge)(sf bd:List Bool)(n p:Nat):D:=
 if(nth (iH E sf bd n) p).t<il then .tup [.t (tL ((OV E sf bd n p).map fun e=>(e.r:Int))),I (nth (iH E sf bd n) p).t,.t (tL ((p:Int)::(OV E sf bd n p).map fun e=>(e.b:Int))),B true]
 else .tup [.t (tL []),I 0,.t (tL []),B false]
theorem p6{E:List Edge}{sf bd:List Bool}{n:Nat}(hE:∀e∈E,e.ok n)(hn:n≤64){p:Nat}(hp:p<n)(hf:(nth (iH E sf bd n) p).t<il):0≤(nth (iH E sf bd n) p).t∧(nth (iH E sf bd n) p).t≤64000000∧0≤(nth (iH E sf bd n) p).r∧(nth (iH E sf bd n) p).r≤64000000:=by
 have h:=yk (sf:=sf) (bd:=bd) hE
 have h1:=h.time hE hp hf
 have h2:=h.t0 p hp
 have h3:=h.r0 p hp
 have h4:=h.r1 p hp
 omega
theorem gw{l:Nat}{L:C}{S:St}{p:Ex×St}{K:St→Option (Ex×St)}{E:Ex×St→Option (D×ab)}{R:Option (D×ab)}(h:exS bY L S=some p)(h2:(andThen (pP l (some p)) K).bind E=R):(andThen (pP l (exS bY L S)) K).bind E=R:=by
 rw[h];exact h2
theorem Dr(E:List Edge)(sf bd:List Bool)(ep n:Nat)(hs:sf.length=n)(hb:bd.length=n)(hn:n≤64)(hE:∀e∈E,e.ok n)(hl:E.length≤1000)(p:Nat)(hp:p<n):
 bY 0 N.aV [.agg (sT 0 E ep n),I p] [iL E ep,fq sf,fq bd]=some (Gd E sf bd n p,[iL E ep,fq sf,fq bd]):=by
 refine aX K.gv rfl ?_
 have co:=Gb E sf bd ep n hs hb hn hE hl
 have cz:=yk (sf:=sf) (bd:=bd) hE
 have cl:=p6 (sf:=sf) (bd:=bd) hE hn hp
 have ln:=cz.l
 unfold Gd OV
 generalize iH E sf bd n=L at*
 have e1:(L.map Lab.e)[p]?=some (nth L p).e:=ek _ (by omega)
 by_cases hf:(nth L p).t<il
 · obtain⟨c1,c2,c3,c4⟩:=cl hf
   obtain⟨Tl,q,lp⟩:=Dq E sf bd ep n hs hb hn hE hl L cz p (nth L p).r.toNat p [] [(p:Int)] [] hp hf (Nat.le_refl _) (by simp;omega) (by simp;omega)
   have lp2:∀z0 z4 z6 z9 z10,exS bY K.iX ⟨[z0,I p,.bp 3 0,.ref 4 0 0,z4,.ref 7 0 1,z6,.bp 6 0,.bp 8 0,z9,z10],tf E sf bd ep n L [] [(p:Int)] [] p⟩=_:=fun z0 z4 z6 z9 z10=>Cr lp
   rw[if_pos hf]
   generalize (jD (pe sf) (uB sf bd) E L (nth L p).r.toNat p)=P at*
   generalize nth L p=x at*
   obtain⟨xt,xr⟩:=x
   simp only at*
   have hf:xt<1152921504606846976:=hf
   simp (disch:=omega) only[go_sem,K.aV,↓reduceIte,co,e1,hf,Nat.reduceAdd,Nat.reduceSub]
   refine gw (lp2 _ _ _ _ _) ?_
   simp (disch:=omega) only[go_sem,K.aV,↓reduceIte,e1,List.nil_append,List.singleton_append,Nat.reduceAdd,Nat.reduceSub]
   rfl
 · rw[if_neg hf]
   have:=cz.t1 p hp
   generalize nth L p=x at*
   obtain⟨xt,xr⟩:=x
   simp only at*
   have hf:¬xt<1152921504606846976:=hf
   simp (disch:=omega) only[go_sem,K.aV,↓reduceIte,co,e1,hf,Nat.reduceAdd,Nat.reduceSub]
   simp only[tL,List.map_nil]
def p7(l:List Bool)(xs:List Int):Nat→List Bool
 | 0=>l
 | j+1=>(p7 l xs j).set (nth xs j).toNat true
theorem gN(l:List Bool)(xs:List Int):∀j,(p7 l xs j).length=l.length
 | 0=>rfl
 | j+1=>by simp only[p7,List.length_set];exact gN l xs j
def uY(m:bj):List Bool:=m.places.map Place.surf
def sfL(m:bj)(e:Esc):List Bool:=p7 (uY m) e.safe e.safe.length
def bdL(m:bj)(e:Esc):List Bool:=p7 (List.replicate m.places.length false) e.bad e.bad.length
theorem yl(m:bj)(e:Esc):(sfL m e).length=m.places.length:=by unfold sfL;rw[gN];simp[uY]
theorem Dt(m:bj)(e:Esc):(bdL m e).length=m.places.length:=by unfold bdL;rw[gN];simp
def AR(m:bj)(e:Esc)(k:Nat):List Edge:=
 if(k:Int)∈e.shut then []else
  (if 0≤mH m k false then [⟨k,(nth m.roads k).frm.toNat,(nth m.roads k).to.toNat,mH m k false⟩]else [])++
  (if 0≤mH m k true then [⟨k,(nth m.roads k).to.toNat,(nth m.roads k).frm.toNat,mH m k true⟩]else [])
def kR(m:bj)(e:Esc):Nat→List Edge
 | 0=>[]
 | j+1=>kR m e j++AR m e j
theorem Du(m:bj)(e:Esc)(k:Nat):(AR m e k).length≤2:=by
 unfold AR
 split
 · simp
 · rw[List.length_append]
   split<;>split<;>simp
theorem my(m:bj)(e:Esc):∀j,(kR m e j).length≤2*j
 | 0=>Nat.le_refl _
 | j+1=>by
   have:=my m e j
   have:=Du m e j
   simp only[kR,List.length_append]
   omega
theorem Ge{m:bj}(hm:m.ok)(e:Esc){k:Nat}(hk:k<m.roads.length):∀x∈AR m e k,x.ok m.places.length:=by
 obtain⟨f0,f1,t0,t1, -,l0,l1, -, -, -, -, -, -, -, -⟩:=hm.rs _ (b9 hk)
 have s1:=jr hm k hk false
 have s2:=jr hm k hk true
 intro x hx
 unfold AR at hx
 split at hx
 · cases hx
 · rw[List.mem_append]at hx
   rcases hx with hx | hx
   · split at hx
     · rw[List.mem_singleton]at hx
       subst hx
       exact⟨by simp only;omega,by simp only;omega,by simp only;omega,by simp only;omega⟩
     · cases hx
   · split at hx
     · rw[List.mem_singleton]at hx
       subst hx
       exact⟨by simp only;omega,by simp only;omega,by simp only;omega,by simp only;omega⟩
     · cases hx
theorem wV{m:bj}(hm:m.ok)(e:Esc):∀j,j≤m.roads.length→∀x∈kR m e j,x.ok m.places.length
 | 0,_=>by simp[kR]
 | j+1,hj=>by
   intro x hx
   rw[kR,List.mem_append]at hx
   rcases hx with hx | hx
   · exact wV hm e j (by omega) x hx
   · exact Ge hm e (by omega) x hx
def fJ(m:bj)(e:Esc):List Edge:=kR m e m.roads.length
def pf(m:bj)(j:Nat):List Bool:=(List.range m.places.length).map fun p=>decide (p<j)&&(nth m.places p).surf
theorem sL(m:bj)(j:Nat):(pf m j).length=m.places.length:=by simp[pf]
theorem AS(m:bj){j:Nat}(hj:j<m.places.length):(pf m j).set j (nth m.places j).surf=pf m (j+1):=by
 refine List.ext_getElem? fun i=>?_
 by_cases hi:i=j
 · subst hi
   rw[List.getElem?_set_self (by rw[sL];exact hj)]
   unfold pf
   rw[List.getElem?_map,List.getElem?_range hj]
   simp
 · rw[List.getElem?_set_ne (by omega)]
   unfold pf
   rw[List.getElem?_map,List.getElem?_map]
   by_cases hn:i<m.places.length
   · rw[List.getElem?_range hn]
     have:(decide (i<j+1))=decide (i<j):=decide_eq_decide.2 (by omega)
     simp only[Option.map_some,this]
   · rw[List.getElem?_eq_none (by simpa using hn)];rfl
theorem Dv(m:bj):pf m m.places.length=uY m:=by
 refine List.ext_getElem? fun i=>?_
 unfold pf uY
 rw[List.getElem?_map,List.getElem?_map]
 by_cases hn:i<m.places.length
 · rw[List.getElem?_range hn,gL hn];simp[hn]
 · rw[List.getElem?_eq_none (by simpa using hn),List.getElem?_eq_none (by omega)];rfl
theorem AT(m:bj):pf m 0=List.replicate m.places.length false:=by
 refine List.ext_getElem? fun i=>?_
 unfold pf
 rw[List.getElem?_map,List.getElem?_replicate]
 by_cases hn:i<m.places.length
 · rw[List.getElem?_range hn];simp[hn]
 · rw[List.getElem?_eq_none (by simpa using hn)];simp[hn]
abbrev q9(e:Esc):List D:=[.t (tL e.safe),.t (tL e.bad),.t (tL e.shut),.t (tI e.limit)]
abbrev mI(m:bj)(e:Esc)(S:List Edge)(sf bd:List Bool):ab:=[.box (ag m),.box (q9 e),.box [I 0,.nil,.nil,.nil],.box [I m.places.length,.ref 7 0 S.length,.ref 5 0 m.places.length,.ref 6 0 m.places.length],.arr 4 false 0 [],fq sf,fq bd,iL S 0]
theorem LS{m:bj}(hm:m.ok)(e:Esc)(bd:List Bool)(hb:bd.length=m.places.length)(z0 z1 z6 z7 z8 z9 z10 z11 z12 z13 z17 z18 z19 z20 z21 z22 z23 z24 z25:D):
 exS bY K.qE ⟨[z0,z1,.bp 0 0,.bp 1 0,.bp 2 0,.bp 3 0,z6,z7,z8,z9,z10,z11,z12,z13,.t (.sl (m.places.map Place.e)),I m.places.length,I 0,z17,z18,z19,z20,z21,z22,z23,z24,z25],mI m e [] (pf m 0) bd⟩=some (.exit 0,⟨[.und,.und,.bp 0 0,.bp 1 0,.bp 2 0,.bp 3 0,.und,.und,.und,.und,.und,.und,.und,.und,.t (.sl (m.places.map Place.e)),I m.places.length,I m.places.length,.und,.und,.und,.und,.und,.und,.und,.und,.und],mI m e [] (uY m) bd⟩):=by
 have np:=hm.np
 rw[← Dv]
 refine ei (fun j=>⟨[.und,.und,.bp 0 0,.bp 1 0,.bp 2 0,.bp 3 0,.und,.und,.und,.und,.und,.und,.und,.und,.t (.sl (m.places.map Place.e)),I m.places.length,I j,.und,.und,.und,.und,.und,.und,.und,.und,.und],mI m e [] (pf m j) bd⟩) m.places.length (by simp only[go_sem]) ?_ ?_ (by simp)
 · intro j hj
   have ln:=sL m j
   have ex:(m.places.map Place.e)[j]?=some (nth m.places j).e:=ek _ hj
   rw[← AS m hj]
   generalize pf m j=L at*
   generalize nth m.places j=x at*
   obtain⟨h,su⟩:=x
   obtain⟨places,roads⟩:=m
   simp only[ag]at*
   simp (disch:=omega) only[go_sem,K.kE,↓reduceIte,ex,q7,Nat.reduceAdd,Nat.reduceSub]
   rfl
 · have ln:=sL m m.places.length
   generalize pf m m.places.length=L at*
   obtain⟨places,roads⟩:=m
   simp only[ag]at*
   simp (disch:=omega) only[go_sem,K.kE,↓reduceIte,Nat.reduceAdd,Nat.reduceSub]
theorem LU{m:bj}(hm:m.ok){e:Esc}(he:e.ok m)(sf bd:List Bool)(hs:sf.length=m.places.length)(hb:bd.length=m.places.length)(z0 z1 z6 z7 z8 z9 z10 z11 z12 z13 z14 z15 z16 z20 z21 z22 z23 z24 z25:D):
 exS bY K.qF ⟨[z0,z1,.bp 0 0,.bp 1 0,.bp 2 0,.bp 3 0,z6,z7,z8,z9,z10,z11,z12,z13,z14,z15,z16,.t (tL e.safe),I e.safe.length,I 0,z20,z21,z22,z23,z24,z25],mI m e [] sf bd⟩=some (.exit 2,⟨[.und,.und,.bp 0 0,.bp 1 0,.bp 2 0,.bp 3 0,.und,.und,.und,.und,.und,.und,.und,.und,.und,.und,.und,.t (tL e.safe),I e.safe.length,I e.safe.length,.und,.und,.und,.und,.und,.und],mI m e [] (p7 sf e.safe e.safe.length) bd⟩):=by
 have np:=hm.np
 have sl:=he.sl hm
 refine ei (fun j=>⟨[.und,.und,.bp 0 0,.bp 1 0,.bp 2 0,.bp 3 0,.und,.und,.und,.und,.und,.und,.und,.und,.und,.und,.und,.t (tL e.safe),I e.safe.length,I j,.und,.und,.und,.und,.und,.und],mI m e [] (p7 sf e.safe j) bd⟩) e.safe.length (by simp only[go_sem,p7]) ?_ ?_ (by simp)
 · intro j hj
   have ln:=gN sf e.safe j
   have hx:=mr he.s _ (b9 hj)
   simp only[p7]
   generalize p7 sf e.safe j=L at*
   obtain⟨places,roads⟩:=m
   obtain⟨safe,bad,shut,limit⟩:=e
   simp only[ag,q9]at*
   simp (disch:=omega) only[go_sem,K.kF,↓reduceIte,q7,Nat.reduceAdd,Nat.reduceSub]
   rfl
 · have ln:=gN sf e.safe e.safe.length
   generalize p7 sf e.safe e.safe.length=L at*
   obtain⟨places,roads⟩:=m
   obtain⟨safe,bad,shut,limit⟩:=e
   simp only[ag,q9]at*
   simp (disch:=omega) only[go_sem,K.kF,↓reduceIte,Nat.reduceAdd,Nat.reduceSub]
theorem LV{m:bj}(hm:m.ok){e:Esc}(he:e.ok m)(sf bd:List Bool)(hs:sf.length=m.places.length)(hb:bd.length=m.places.length)(z0 z1 z6 z7 z8 z9 z10 z11 z12 z13 z14 z15 z16 z17 z18 z19 z23 z24 z25:D):
 exS bY K.qG ⟨[z0,z1,.bp 0 0,.bp 1 0,.bp 2 0,.bp 3 0,z6,z7,z8,z9,z10,z11,z12,z13,z14,z15,z16,z17,z18,z19,.t (tL e.bad),I e.bad.length,I 0,z23,z24,z25],mI m e [] sf bd⟩=some (.exit 4,⟨[.und,.und,.bp 0 0,.bp 1 0,.bp 2 0,.bp 3 0,.und,.und,.und,.und,.und,.und,.und,.und,.und,.und,.und,.und,.und,.und,.t (tL e.bad),I e.bad.length,I e.bad.length,.und,.und,.und],mI m e [] sf (p7 bd e.bad e.bad.length)⟩):=by
 have np:=hm.np
 have sl:=he.bl hm
 refine ei (fun j=>⟨[.und,.und,.bp 0 0,.bp 1 0,.bp 2 0,.bp 3 0,.und,.und,.und,.und,.und,.und,.und,.und,.und,.und,.und,.und,.und,.und,.t (tL e.bad),I e.bad.length,I j,.und,.und,.und],mI m e [] sf (p7 bd e.bad j)⟩) e.bad.length (by simp only[go_sem,p7]) ?_ ?_ (by simp)
 · intro j hj
   have ln:=gN bd e.bad j
   have hx:=mr he.b _ (b9 hj)
   simp only[p7]
   generalize p7 bd e.bad j=L at*
   obtain⟨places,roads⟩:=m
   obtain⟨safe,bad,shut,limit⟩:=e
   simp only[ag,q9]at*
   simp (disch:=omega) only[go_sem,K.kG,↓reduceIte,q7,Nat.reduceAdd,Nat.reduceSub]
   rfl
 · have ln:=gN bd e.bad e.bad.length
   generalize p7 bd e.bad e.bad.length=L at*
   obtain⟨places,roads⟩:=m
   obtain⟨safe,bad,shut,limit⟩:=e
   simp only[ag,q9]at*
   simp (disch:=omega) only[go_sem,K.kG,↓reduceIte,Nat.reduceAdd,Nat.reduceSub]
theorem LW{m:bj}(hm:m.ok){e:Esc}(he:e.ok m)(sf bd:List Bool)(z0 z1 z6 z7 z8 z9 z10 z11 z12 z13 z14 z15 z16 z17 z18 z19 z20 z21 z22:D):
 exS bY K.qH ⟨[z0,z1,.bp 0 0,.bp 1 0,.bp 2 0,.bp 3 0,z6,z7,z8,z9,z10,z11,z12,z13,z14,z15,z16,z17,z18,z19,z20,z21,z22,.t (.sl (m.roads.map Road.e)),I m.roads.length,I 0],mI m e [] sf bd⟩=some (.exit 6,⟨[.und,.und,.bp 0 0,.bp 1 0,.bp 2 0,.bp 3 0,.und,.und,.und,.und,.und,.und,.und,.und,.und,.und,.und,.und,.und,.und,.und,.und,.und,.t (.sl (m.roads.map Road.e)),I m.roads.length,I m.roads.length],mI m e (fJ m e) sf bd⟩):=by
 have np:=hm.np
 have nr:=hm.nr
 have sl:=he.hl hm
 refine ei (fun j=>⟨[.und,.und,.bp 0 0,.bp 1 0,.bp 2 0,.bp 3 0,.und,.und,.und,.und,.und,.und,.und,.und,.und,.und,.und,.und,.und,.und,.und,.und,.und,.t (.sl (m.roads.map Road.e)),I m.roads.length,I j],mI m e (kR m e j) sf bd⟩) m.roads.length (by simp only[go_sem,kR]) ?_ ?_ (by simp)
 · intro j hj
   have ln:=my m e j
   have cn:=nC e.shut j (by omega)
   have w1:=kI hm j hj false
   have w2:=kI hm j hj true
   have b1:=jr hm j hj false
   have b2:=jr hm j hj true
   obtain⟨f0,f1,t0,t1, -, -, -, -, -, -, -, -, -, -, -⟩:=hm.rs _ (b9 hj)
   simp only[kR]
   unfold AR
   have ex:(m.roads.map Road.e)[j]?=some (nth m.roads j).e:=ek _ hj
   generalize mH m j false=u at*
   generalize mH m j true=v at*
   generalize nth m.roads j=x at*
   obtain⟨frm,to,len,ar,walk,closed,rl,rh,ll,lh⟩:=x
   simp only at f0 f1 t0 t1 ⊢
   obtain⟨p,rfl⟩:=Int.eq_ofNat_of_zero_le f0
   obtain⟨q,rfl⟩:=Int.eq_ofNat_of_zero_le t0
   simp only[Int.toNat_natCast]
   generalize kR m e j=S at*
   obtain⟨places,roads⟩:=m
   obtain⟨safe,bad,shut,limit⟩:=e
   simp only[ag,q9]at*
   by_cases c:(j:Int)∈shut
   · rw[if_pos c]
     simp (disch:=omega) only[go_sem,K.dY,↓reduceIte,ex,cn,c,decide_true,List.append_nil,Nat.reduceAdd,Nat.reduceSub]
   · rw[if_neg c]
     by_cases c1:0≤u<;>by_cases c2:0≤v
     · simp (disch:=omega) only[go_sem,K.dY,↓reduceIte,ex,cn,c,w1,w2,c1,c2,decide_false,Nat.reduceAdd,Nat.reduceSub]
       simp only[mI,iL,ag,q9,List.map_append,List.map_cons,List.map_nil,List.length_append,List.length_cons,List.length_nil,Nat.add_assoc,Nat.reduceAdd,Nat.zero_add,List.append_assoc,List.cons_append,List.nil_append]
     · simp (disch:=omega) only[go_sem,K.dY,↓reduceIte,ex,cn,c,w1,w2,c1,c2,decide_false,List.append_nil,Nat.reduceAdd,Nat.reduceSub]
       simp only[mI,iL,ag,q9,List.map_append,List.map_cons,List.map_nil,List.length_append,List.length_cons,List.length_nil,Nat.add_assoc,Nat.reduceAdd,Nat.zero_add,List.append_assoc,List.cons_append,List.nil_append]
     · simp (disch:=omega) only[go_sem,K.dY,↓reduceIte,ex,cn,c,w1,w2,c1,c2,decide_false,List.nil_append,Nat.reduceAdd,Nat.reduceSub]
       simp only[mI,iL,ag,q9,List.map_append,List.map_cons,List.map_nil,List.length_append,List.length_cons,List.length_nil,Nat.add_assoc,Nat.reduceAdd,Nat.zero_add,List.append_assoc,List.cons_append,List.nil_append]
     · simp (disch:=omega) only[go_sem,K.dY,↓reduceIte,ex,cn,c,w1,w2,c1,c2,decide_false,List.append_nil,Nat.reduceAdd,Nat.reduceSub]
 · unfold fJ
   generalize kR m e m.roads.length=S at*
   obtain⟨places,roads⟩:=m
   obtain⟨safe,bad,shut,limit⟩:=e
   simp only[ag,q9]at*
   simp (disch:=omega) only[go_sem,K.dY,↓reduceIte,Nat.reduceAdd,Nat.reduceSub]
theorem LX{m:bj}(hm:m.ok){e:Esc}(he:e.ok m)(h1:1≤m.places.length):
 bY 1 N.dA [.t m.e,.t e.e] []=some (.agg (sT 0 (fJ m e) 0 m.places.length),[iL (fJ m e) 0,fq (sfL m e),fq (bdL m e)]):=by
 refine aX K.nL rfl ?_
 have np:=hm.np
 have nr:=hm.nr
 have l1:=LS hm e (List.replicate m.places.length false) (by simp)
 have l2:=LU hm he (uY m) (List.replicate m.places.length false) (by simp[uY]) (by simp)
 have l3:=LV hm he (sfL m e) (List.replicate m.places.length false) (yl m e) (by simp)
 have l4:=LW hm he (sfL m e) (bdL m e)
 have ls:(fJ m e).length≤256:=by have:=my m e m.roads.length;unfold fJ;omega
 have e2:p7 (uY m) e.safe e.safe.length=sfL m e:=rfl
 have e3:p7 (List.replicate m.places.length false) e.bad e.bad.length=bdL m e:=rfl
 rw[e2]at l2
 rw[e3]at l3
 have s1:=yl m e
 have s2:=Dt m e
 rw[AT]at l1
 generalize fJ m e=W at*
 generalize sfL m e=sf at*
 generalize bdL m e=bd at*
 generalize uY m=sl at*
 obtain⟨places,roads⟩:=m
 obtain⟨safe,bad,shut,limit⟩:=e
 simp only[ag,q9,mI]at*
 have rp:List.replicate places.length (D.t (T.bool false))=List.map D.t (List.map T.bool (List.replicate places.length false)):=by simp only[List.map_replicate]
 simp (disch:=omega) only[go_sem,K.dA,↓reduceIte,Nat.reduceAdd,Nat.reduceSub]
 rw[rp]
 refine gw (l1 _ _ _ _ _ _ _ _ _ _ _ _ _ _ _ _ _ _ _) ?_
 simp (disch:=omega) only[go_sem,K.dA,↓reduceIte,Nat.reduceAdd,Nat.reduceSub]
 refine gw (l2 _ _ _ _ _ _ _ _ _ _ _ _ _ _ _ _ _ _ _) ?_
 simp (disch:=omega) only[go_sem,K.dA,↓reduceIte,Nat.reduceAdd,Nat.reduceSub]
 refine gw (l3 _ _ _ _ _ _ _ _ _ _ _ _ _ _ _ _ _ _ _) ?_
 simp (disch:=omega) only[go_sem,K.dA,↓reduceIte,Nat.reduceAdd,Nat.reduceSub]
 refine gw (l4 _ _ _ _ _ _ _ _ _ _ _ _ _ _ _ _ _ _ _) ?_
 simp (disch:=omega) only[go_sem,K.dA,↓reduceIte,Nat.reduceAdd,Nat.reduceSub]
end Go.Ev
namespace Go.Ev
open Go
section
variable [Lib]
def LY(H:ab)(zero:T)(sz:Nat)(x:D):Option (D×ab):=vz H x zero sz
@[go_sem] theorem Zf (call : aC) (get : X → Option D) (H : ab) (x : X) (zero : T) (sz : Nat) : evO call get H (.clr x zero sz) = (get x).bind (LY H zero sz) := (rfl)
@[go_sem] theorem XY (H : ab) (zero : T) (sz ep n lo hi : Nat) (es : List D) (h1 : n = es.length) (h2 : lo ≤ hi) (h3 : hi ≤ n) : LY (.arr sz false ep es :: H) zero sz (.sub 0 ep n lo hi) =
 some (.tup [],.arr sz false ep (es.take lo++List.replicate (hi-lo) (.t zero)++es.drop hi)::H):=by
 have a:dv (.arr sz false ep es::H) 0 ep n=some (sz,false,es):=by
  show(if ep=ep∧n=es.length then some (sz,false,es)else none)=_
  rw[if_pos ⟨rfl,h1⟩]
 simp only[LY,vz,a,Option.bind_some,L8]
 by_cases h:hi-lo=0
 · rw[if_pos h,h]
   have:hi=lo:=by omega
   subst this
   simp
 · rw[if_neg h,if_pos (by simp)]
   have:lo+(hi-lo)=hi:=by omega
   rw[this]
   rfl
def LZ(H:ab)(x hi:Option D):Option (D×ab):=x.bind fun a=>(hi.bind intOf).bind fun h=>OX H a h
@[go_sem] theorem Zg (call : aC) (get : X → Option D) (H : ab) (x hi : X) : evO call get H (.pop x hi) = LZ H (get x) (get hi) := (rfl)
@[go_sem] theorem XZ (H : ab) (k : IntKind) (sz ep n : Nat) (i : Int) (es : List D) (h1 : n = es.length) (h2 : 0 ≤ i) (h3 : i ≤ n) : LZ (.arr sz false ep es :: H) (some (.ref 0 ep n)) (some (.t (.int k i))) =
 some (.ref 0 (ep+1) i.toNat,.arr sz false (ep+1) (es.take i.toNat)::H):=by
 have a:dv (.arr sz false ep es::H) 0 ep n=some (sz,false,es):=by
  show(if ep=ep∧n=es.length then some (sz,false,es)else none)=_
  rw[if_pos ⟨rfl,h1⟩]
 have b:intOf (.t (.int k i))=some i:=rfl
 have c:idx i=some i.toNat:=by unfold idx;rw[if_pos h2]
 simp only[LZ,Option.bind_some,b,OX,a,c]
 rw[if_pos ⟨by omega,trivial⟩]
 rfl
end
variable [Lib] [bQ] [bC] [eE] [eB] [gU] [dW] [dR] [fP] [ez] [dF] [df] [iF] [gK] [nH] [kT] [gW] [gz] [kV]
theorem ym(l:List Int)(hl:l.length≤100000000)(e:Edge):bY 0 N.bP [.t e.e,.bp 0 0] [.box [.t (tL l)]]=some (B (decide ((e.r:Int)∈l)),[.box [.t (tL l)]]):=by
 refine aX K.lS rfl ?_
 have cn:=nC l e.r (by omega)
 obtain⟨r,a,b,t⟩:=e
 simp only at*
 simp (disch:=omega) only[go_sem,K.bP,↓reduceIte,cn,Nat.reduceAdd,Nat.reduceSub]
theorem Dw(l:List Int)(hll:l.length≤100000000)(E:List Edge)(hl:E.length≤1000):
 bY 0 N.ae [.ref 0 0 E.length,.fn N.bP [.bp 1 0]] [iL E 0,.box [.t (tL l)]]=
  some (I (match (List.range E.length).find? (fun j=>decide (((nth E j).r:Int)∈l))with | some j=>(j:Int) | none=> -1),[iL E 0,.box [.t (tL l)]]):=by
 refine aX K.aZ rfl ?_
 have loop:∀z2 z3:D,exS bY K.bK ⟨[.ref 0 0 E.length,.fn N.bP [.bp 1 0],z2,z3,I E.length,I 0],[iL E 0,.box [.t (tL l)]]⟩=
  some (match (List.range E.length).find? (fun j=>decide (((nth E j).r:Int)∈l))with
   | some j=>(.ret,⟨[.ref 0 0 E.length,.fn N.bP [.bp 1 0],I j,I j,I E.length,I j],[iL E 0,.box [.t (tL l)]]⟩)
   | none=>(.exit 0,⟨[.ref 0 0 E.length,.fn N.bP [.bp 1 0],.und,.und,I E.length,I E.length],[iL E 0,.box [.t (tL l)]]⟩)):=by
  intro z2 z3
  refine jV (fun j=>⟨[.ref 0 0 E.length,.fn N.bP [.bp 1 0],.und,.und,I E.length,I j],[iL E 0,.box [.t (tL l)]]⟩) E.length (fun j=>decide (((nth E j).r:Int)∈l)) _ _ rfl ?_ ?_ ?_ (by simp)
  · intro j hj hp'
    have b1:=ym l hll (nth E j)
    rw[hp']at b1
    simp (disch:=omega) only[go_sem,K.aB,↓reduceIte,b1,Nat.reduceAdd,Nat.reduceSub]
  · intro j hj hp'
    have b1:=ym l hll (nth E j)
    rw[hp']at b1
    refine⟨?_,by simp⟩
    simp (disch:=omega) only[go_sem,K.aB,↓reduceIte,b1,Nat.reduceAdd,Nat.reduceSub]
  · simp (disch:=omega) only[go_sem,K.aB,↓reduceIte,Nat.reduceAdd,Nat.reduceSub]
 cases hf:(List.range E.length).find? (fun j=>decide (((nth E j).r:Int)∈l))with
 | some j=>
   rw[hf]at loop
   simp (disch:=omega) only[go_sem,K.ae,↓reduceIte,loop,Nat.reduceAdd,Nat.reduceSub]
 | none=>
   rw[hf]at loop
   simp (disch:=omega) only[go_sem,K.ae,↓reduceIte,loop,Nat.reduceAdd,Nat.reduceSub]
def je(l:List Int)(e:Edge):Bool:= !decide ((e.r:Int)∈l)
def yn(l:List Int)(E:List Edge):List Edge:=E.filter (je l)
def nY(l:List Int)(E:List Edge)(j:Nat):List Edge:=(E.take j).filter (je l)
theorem pg(l:List Int)(E:List Edge)(j:Nat):(nY l E j).length≤j:=by
 unfold nY
 have:=List.length_filter_le (je l) (E.take j)
 have:=List.length_take_le j E
 omega
theorem ph(l:List Int)(E:List Edge){j:Nat}(hj:j<E.length):nY l E (j+1)=nY l E j++(if je l (nth E j)then [nth E j]else []):=by
 unfold nY
 rw[List.take_succ,gL hj,List.filter_append]
 cases h:je l (nth E j)<;>simp[h]
theorem uZ(l:List Int)(E:List Edge):nY l E E.length=yn l E:=by unfold nY yn;rw[List.take_length]
theorem Gf{A B:List Edge}{i:Nat}(h:A.length≤i):nth (A++B) i=nth B (i-A.length):=by
 unfold nth
 simp only[List.getD_eq_getElem?_getD,List.getElem?_append_right h]
theorem Dx{A:List Edge}{k i:Nat}:nth (A.drop k) i=nth A (k+i):=by
 unfold nth
 simp only[List.getD_eq_getElem?_getD,List.getElem?_drop]
def u9(l:List Int)(E:List Edge)(j:Nat):List Edge:=nY l E j++E.drop (nY l E j).length
theorem vd(l:List Int)(E:List Edge){j:Nat}(hj:j≤E.length):(u9 l E j).length=E.length:=by
 unfold u9
 have:=pg l E j
 rw[List.length_append,List.length_drop];omega
theorem Gg(l:List Int)(E:List Edge)(j:Nat){i:Nat}(hi:j≤i):nth (u9 l E j) i=nth E i:=by
 unfold u9
 have:=pg l E j
 rw[Gf (by omega),Dx]
 congr 1
 omega
theorem Gi(l:List Int)(E:List Edge){j:Nat}(hj:j<E.length)(h:je l (nth E j)=true):(u9 l E j).set (nY l E j).length (nth E j)=u9 l E (j+1):=by
 unfold u9
 have dl:=pg l E j
 rw[ph l E hj,if_pos h,List.set_append_right _ _ (Nat.le_refl _),Nat.sub_self,List.length_append,List.length_singleton,List.append_assoc]
 congr 1
 have:E.drop (nY l E j).length=nth E (nY l E j).length::E.drop ((nY l E j).length+1):=by
  have hl:(nY l E j).length<E.length:=by omega
  rw[List.drop_eq_getElem_cons hl]
  congr 1
  have:=gL hl
  rw[List.getElem?_eq_getElem hl]at this
  exact Option.some.inj this
 rw[this]
 rfl
theorem Dy(l:List Int)(E:List Edge){j:Nat}(hj:j<E.length)(h:je l (nth E j)=false):nY l E (j+1)=nY l E j∧u9 l E j=u9 l E (j+1):=by
 have:nY l E (j+1)=nY l E j:=by rw[ph l E hj,h];simp
 unfold u9
 rw[this]
 exact⟨rfl,rfl⟩
theorem Gj(L:List Edge)(j:Nat)(a b c d:Int)(x:Edge)(h:x.e= .agg [.int .i64 a,.int .i64 b,.int .i64 c,.int .i64 d]):(List.map D.t (List.map Edge.e L)).set j (D.t (.agg [.int .i64 a,.int .i64 b,.int .i64 c,.int .i64 d]))=List.map D.t (List.map Edge.e (L.set j x)):=by
 simp only[List.map_set,h]
theorem Gk(l:List Int)(hll:l.length≤100000000)(E:List Edge)(hl:E.length≤1000)(i:Nat)(hi:i<E.length)(h0:nY l E (i+1)=nY l E i)(h00:(nY l E i).length=i)(z2 z5:D):
 exS bY K.cE ⟨[.ref 0 0 E.length,.fn N.bP [.bp 1 0],z2,I i,I (i+1),z5],[iL E 0,.box [.t (tL l)]]⟩=
  some (.exit 0,⟨[.ref 0 0 E.length,.fn N.bP [.bp 1 0],.und,I (yn l E).length,I E.length,.und],[iL (u9 l E E.length) 0,.box [.t (tL l)]]⟩):=by
 have e0:u9 l E (i+1)=E:=by
  unfold u9
  rw[h0]
  have:nY l E i=E.take i:=by
   have:=List.filter_sublist (p:=je l) (l:=E.take i)
   exact this.eq_of_length (by rw[show((E.take i).filter (je l)).length=i from h00,List.length_take];omega)
  rw[h00,this,List.take_append_drop]
 rw[← uZ]
 refine ei (fun k=>⟨[.ref 0 0 E.length,.fn N.bP [.bp 1 0],.und,I (nY l E (i+1+k)).length,I ((i+1+k:Nat)),.und],[iL (u9 l E (i+1+k)) 0,.box [.t (tL l)]]⟩) (E.length-(i+1)) ?_ ?_ ?_ (by simp)
 · simp only[Nat.add_zero,e0,h0,h00]
   rfl
 · intro k hk
   have hj:i+1+k<E.length:=by omega
   rw[show i+1+(k+1)=i+1+k+1 from rfl]
   generalize i+1+k=j at*
   have t1:=ym l hll (nth E j)
   have ln:=vd l E (j:=j) (by omega)
   have nx:=Gg l E j (i:=j) (Nat.le_refl _)
   have dl:=pg l E j
   have st:=Gi l E hj
   have sm:=Dy l E hj
   have sp:=ph l E hj
   generalize hx:nth E j=x at*
   have hk:je l x= !decide ((x.r:Int)∈l):=rfl
   generalize decide ((x.r:Int)∈l)=c at*
   generalize u9 l E j=A at*
   generalize nY l E j=F at*
   obtain⟨xr,xa,xb,xt⟩:=x
   cases c with
   | true=>
     obtain⟨s1,s2⟩:=sm hk
     rw[s1,←s2]
     simp (disch:=omega) only[go_sem,K.aT,↓reduceIte,t1,nx,Bool.not_true,Nat.reduceAdd,Nat.reduceSub]
   | false=>
     rw[← st hk,sp,if_pos (show je l ⟨xr,xa,xb,xt⟩=true from hk)]
     simp (disch:=omega) only[go_sem,K.aT,↓reduceIte,t1,nx,Bool.not_false,List.length_append,List.length_singleton,Gj A F.length xr xa xb xt ⟨xr,xa,xb,xt⟩ rfl,Nat.reduceAdd,Nat.reduceSub]
 · have:i+1+(E.length-(i+1))=E.length:=by omega
   rw[this]
   have ln:=vd l E (j:=E.length) (Nat.le_refl _)
   generalize u9 l E E.length=A at*
   generalize nY l E E.length=F at*
   simp (disch:=omega) only[go_sem,K.aT,↓reduceIte,Nat.reduceAdd,Nat.reduceSub]
theorem Dz(l:List Int)(hll:l.length≤100000000)(E:List Edge)(hl:E.length≤1000):
 bY 1 N.aj [.ref 0 0 E.length,.fn N.bP [.bp 1 0]] [iL E 0,.box [.t (tL l)]]=
  some (.ref 0 (if(E.all (je l))=true then 0 else 1) (yn l E).length,[iL (yn l E) (if(E.all (je l))=true then 0 else 1),.box [.t (tL l)]]):=by
 refine aX K.bJ rfl ?_
 have ix:=Dw l hll E hl
 cases hf:(List.range E.length).find? (fun j=>decide (((nth E j).r:Int)∈l))with
 | none=>
   rw[hf]at ix
   have al:E.all (je l)=true:=by
    rw[List.all_eq_true]
    intro e he
    obtain⟨j,hj,rfl⟩:=List.mem_iff_getElem.1 he
    have:=List.find?_eq_none.1 hf j (List.mem_range.2 hj)
    have e2:nth E j=E[j]:=m6 (List.getElem?_eq_getElem hj)
    rw[e2]at this
    unfold je
    simpa using this
   have de:yn l E=E:=by unfold yn;exact List.filter_eq_self.2 (List.all_eq_true.1 al)
   rw[if_pos al,de]
   simp (disch:=omega) only[go_sem,K.aj,↓reduceIte,ix,Nat.reduceAdd,Nat.reduceSub]
 | some i=>
   rw[hf]at ix
   have hi:=List.mem_range.1 (List.mem_of_find?_eq_some hf)
   have hp:=List.find?_some hf
   have lt:∀j,j<i→je l (nth E j)=true:=by
    intro j hj
    have:=(List.find?_range_eq_some.1 hf).2.2 j hj
    unfold je
    simpa using this
   have al:¬E.all (je l)=true:=by
    intro h
    have:=List.all_eq_true.1 h _ (b9 hi)
    unfold je at this
    rw[hp]at this
    cases this
   have tk:nY l E i=E.take i:=by
    unfold nY
    rw[List.filter_eq_self]
    intro e he
    obtain⟨j,hj,rfl⟩:=List.mem_iff_getElem.1 he
    rw[List.length_take]at hj
    have:=lt j (by omega)
    have e2:nth E j=E[j]:=m6 (List.getElem?_eq_getElem (by omega))
    rw[e2]at this
    simpa using this
   have h00:(nY l E i).length=i:=by rw[tk,List.length_take];omega
   have h0:nY l E (i+1)=nY l E i:=by
    rw[ph l E hi]
    have:je l (nth E i)=false:=by unfold je;rw[hp];rfl
    rw[this];simp
   have lp:=Gk l hll E hl i hi h0 h00
   have dl:=pg l E E.length
   have al2:=vd l E (j:=E.length) (Nat.le_refl _)
   have da:(u9 l E E.length).take (yn l E).length=yn l E:=by
    unfold u9
    rw[uZ,List.take_left]
   rw[uZ]at dl
   rw[if_neg al]
   generalize u9 l E E.length=A at*
   generalize yn l E=F at*
   have ta:List.take F.length (List.map D.t (List.map Edge.e A))=List.map D.t (List.map Edge.e F):=by rw[← List.map_take,←List.map_take,da]
   have al3:E.length=(List.map D.t (List.map Edge.e A)).length:=by simp[al2]
   have ta2:∀x y:List D,List.take F.length (List.take F.length (List.map D.t (List.map Edge.e A))++x++y)=List.map D.t (List.map Edge.e F):=by
    intro x y
    rw[ta,List.append_assoc,List.take_left' (by simp)]
   have al4:∀z:D,E.length=(List.take F.length (List.map D.t (List.map Edge.e A))++List.replicate (E.length-F.length) z++List.drop E.length (List.map D.t (List.map Edge.e A))).length:=by
    intro z
    simp only[List.length_append,List.length_take,List.length_replicate,List.length_drop,List.length_map]
    omega
   have al5:=al4 (D.t (T.agg [T.int IntKind.i64 0,T.int IntKind.i64 0,T.int IntKind.i64 0,T.int IntKind.i64 0]))
   simp (disch:=omega) only[go_sem,K.aj,↓reduceIte,ix,lp,ta2,Nat.reduceAdd,Nat.reduceSub]
end Go.Ev
namespace Go.Ev
open Go
variable [Lib] [bQ] [bC] [eE] [eB] [gU] [dW] [dR] [fP] [ez] [dF] [df] [iF] [gK] [nH] [kT] [gW] [gz] [kV]
def AU(m:bj)(p:Nat):Nat→Int
 | 0=>0
 | j+1=>if(nth m.roads j).frm=p then max (if(nth m.roads j).to=p then max (AU m p j) (mH m j false)else AU m p j) (mH m j true)
  else(if(nth m.roads j).to=p then max (AU m p j) (mH m j false)else AU m p j)
def L0(m:bj)(p:Nat):Int:=AU m p m.roads.length
theorem yo{m:bj}(hm:m.ok)(p:Nat):∀j,j≤m.roads.length→0≤AU m p j∧AU m p j≤500001
 | 0,_=>by simp[AU]
 | j+1,hj=>by
   have ih:=yo hm p j (by omega)
   have b1:=jr hm j (by omega) false
   have b2:=jr hm j (by omega) true
   unfold AU
   split<;>split<;>omega
theorem L3{m:bj}(hm:m.ok)(p:Nat)(hp:p<m.places.length):bY 0 N.gM [.t m.e,I p] []=some (I (L0 m p),[]):=by
 refine aX K.p5 rfl ?_
 have np:=hm.np
 have nr:=hm.nr
 have loop:∀z0 z3 z5 z6:D,exS bY K.sK ⟨[z0,I p,.bp 0 0,z3,I 0,z5,z6,.t (.sl (m.roads.map Road.e)),I m.roads.length,I 0],[.box (ag m)]⟩=
  some (.exit 0,⟨[.und,I p,.bp 0 0,.und,I (L0 m p),.und,.und,.t (.sl (m.roads.map Road.e)),I m.roads.length,I m.roads.length],[.box (ag m)]⟩):=by
  intro z0 z3 z5 z6
  refine ei (fun j=>⟨[.und,I p,.bp 0 0,.und,I (AU m p j),.und,.und,.t (.sl (m.roads.map Road.e)),I m.roads.length,I j],[.box (ag m)]⟩) m.roads.length rfl ?_ ?_ (by simp)
  · intro j hj
    have w1:=kI hm j hj false
    have w2:=kI hm j hj true
    have b0:=yo hm p j (by omega)
    have b1:=jr hm j hj false
    have b2:=jr hm j hj true
    have ex:(m.roads.map Road.e)[j]?=some (nth m.roads j).e:=ek _ hj
    conv=>rhs;unfold AU
    generalize AU m p j=L at*
    generalize mH m j false=u at*
    generalize mH m j true=v at*
    generalize nth m.roads j=x at*
    obtain⟨frm,to,len,ar,walk,closed,rl,rh,ll,lh⟩:=x
    simp only at*
    obtain⟨places,roads⟩:=m
    simp only[ag]at*
    by_cases c1:frm=p<;>by_cases c2:to=p
    all_goals simp (disch:=omega) only[go_sem,K.lO,↓reduceIte,ex,w1,w2,c1,c2,Nat.reduceAdd,Nat.reduceSub]
  · obtain⟨places,roads⟩:=m
    simp only[ag]at*
    simp (disch:=omega) only[go_sem,K.lO,↓reduceIte,Nat.reduceAdd,Nat.reduceSub]
    rfl
 generalize L0 m p=r at*
 obtain⟨places,roads⟩:=m
 simp only[ag]at*
 simp (disch:=omega) only[go_sem,K.gM,↓reduceIte,loop,Nat.reduceAdd,Nat.reduceSub]
abbrev vw(P:List Edge):List Int:=P.map fun e=>(e.r:Int)
abbrev DA(P:List Edge):List Int:=P.map fun e=>(e.b:Int)
def w1E(m:bj)(e:Esc)(p:Nat):List Edge:=OV (fJ m e) (sfL m e) (bdL m e) m.places.length p
def c1E(m:bj)(e:Esc)(p:Nat):Int:=(nth (iH (fJ m e) (sfL m e) (bdL m e) m.places.length) p).t
def bd2(m:bj)(e:Esc)(p:Nat):List Bool:=p7 (bdL m e) (DA (w1E m e p)) (DA (w1E m e p)).length
def st2(m:bj)(e:Esc)(p:Nat):List Edge:=yn (vw (w1E m e p)) (fJ m e)
def w2E(m:bj)(e:Esc)(p:Nat):List Edge:=OV (st2 m e p) (sfL m e) (bd2 m e p) m.places.length p
def c2E(m:bj)(e:Esc)(p:Nat):Int:=(nth (iH (st2 m e p) (sfL m e) (bd2 m e p) m.places.length) p).t
def X0(m:bj)(e:Esc)(p:Nat):D:=
 if nth (sfL m e) p=true then .tup [.t (tL []),.t (tL []),.t (.agg [tI 0,tI 0]),B true]
 else if c1E m e p<il then
  if c2E m e p<il then .tup [.t (tL (vw (w1E m e p))),.t (tL (vw (w2E m e p))),.t (.agg [tI (c1E m e p),tI (c2E m e p)]),B true]
  else .tup [.t (tL []),.t (tL []),.t (.agg [tI (c1E m e p),tI 0]),B false]
 else .tup [.t (tL []),.t (tL []),.t (.agg [tI 0,tI 0]),B false]
theorem iI{m:bj}(hm:m.ok)(e:Esc):∀x∈fJ m e,x.ok m.places.length:=wV hm e _ (Nat.le_refl _)
theorem DB{m:bj}(hm:m.ok)(e:Esc):(fJ m e).length≤256:=by have:=my m e m.roads.length;have:=hm.nr;unfold fJ;omega
theorem yp{n:Nat}(l:List Int){E:List Edge}(h:∀e∈E,e.ok n):∀e∈yn l E,e.ok n:=fun e he=>h e (List.mem_filter.1 he).1
theorem Gl(l:List Int)(E:List Edge):(yn l E).length≤E.length:=List.length_filter_le _ _
theorem Sy{m:bj}(hm:m.ok)(e:Esc){p:Nat}(hp:p<m.places.length)(hf:c1E m e p<il):HT il m.places.length (fJ m e) (uB (sfL m e) (bdL m e)) (pe (sfL m e)) (iH (fJ m e) (sfL m e) (bdL m e) m.places.length) p (w1E m e p):=
 De (yk (iI hm e)) (iI hm e) _ p hp hf (Nat.le_refl _)
theorem L4{m:bj}(hm:m.ok)(e:Esc){p:Nat}(hp:p<m.places.length)(hf:c1E m e p<il):(w1E m e p).length≤64000000:=by
 have key:∀k p,(jD (pe (sfL m e)) (uB (sfL m e) (bdL m e)) (fJ m e) (iH (fJ m e) (sfL m e) (bdL m e) m.places.length) k p).length≤k:=by
  intro k
  induction k with
  | zero=>intro p;simp[jD]
  | succ k ih=>
    intro p
    unfold jD
    split
    · simp
    · split
      · have:=ih (by assumption:Edge).b;simp;omega
      · simp
 have h1:=key (nth (iH (fJ m e) (sfL m e) (bdL m e) m.places.length) p).r.toNat p
 have h2:=p6 (sf:=sfL m e) (bd:=bdL m e) (iI hm e) hm.np hp hf
 unfold w1E OV
 omega
theorem Gm(E:List Edge)(sf bd:List Bool)(n:Nat)(hs:sf.length=n)(hb:bd.length=n)(p:Nat)(m:bj)(e:Esc)(W M:List Int)(hM:∀x∈M,0≤x∧x<n)(hl:M.length≤100000000)(hn:n≤64)(t1:Int)(z0 z1 z3 z4 z6 z8 z10 z11 z12:D):
 exS bY K.sJ ⟨[z0,z1,I p,z3,z4,.bp 2 0,z6,.bp 3 0,z8,.bp 7 0,z10,z11,z12,.t (tL M),I M.length,I 0],[.box (ag m),.box (q9 e),.box [.t (tL W)],.box [I t1,I 0],iL E 0,fq sf,fq bd,.box (sT 4 E 0 n)]⟩=
  some (.exit 0,⟨[.und,.und,I p,.und,.und,.bp 2 0,.und,.bp 3 0,.und,.bp 7 0,.und,.und,.und,.t (tL M),I M.length,I M.length],[.box (ag m),.box (q9 e),.box [.t (tL W)],.box [I t1,I 0],iL E 0,fq sf,fq (p7 bd M M.length),.box (sT 4 E 0 n)]⟩):=by
 refine ei (fun j=>⟨[.und,.und,I p,.und,.und,.bp 2 0,.und,.bp 3 0,.und,.bp 7 0,.und,.und,.und,.t (tL M),I M.length,I j],[.box (ag m),.box (q9 e),.box [.t (tL W)],.box [I t1,I 0],iL E 0,fq sf,fq (p7 bd M j),.box (sT 4 E 0 n)]⟩) M.length (by simp only[go_sem,p7]) ?_ ?_ (by simp)
 · intro j hj
   have ln:=gN bd M j
   have hx:=hM _ (b9 hj)
   simp only[p7]
   generalize p7 bd M j=L at*
   simp (disch:=omega) only[go_sem,K.lN,↓reduceIte,q7,Nat.reduceAdd,Nat.reduceSub]
 · have ln:=gN bd M M.length
   generalize p7 bd M M.length=L at*
   simp (disch:=omega) only[go_sem,K.lN,↓reduceIte,Nat.reduceAdd,Nat.reduceSub]
theorem Sz{m:bj}(hm:m.ok){e:Esc}(he:e.ok m)(p:Nat)(hp:p<m.places.length):bY 0 N.eC [.t m.e,.t e.e,I p] []=some (X0 m e p,[]):=by
 refine aX K.p4 rfl ?_
 have np:=hm.np
 have th:=wT hm he p hp
 have fi:=LX hm he (by omega)
 have wl:=DB hm e
 have s1:=yl m e
 have s2:=Dt m e
 have b1:=Dr (fJ m e) (sfL m e) (bdL m e) 0 m.places.length s1 s2 np (iI hm e) (by omega) p hp
 unfold X0
 cases hsp:nth (sfL m e) p with
 | true=>
   rw[if_pos rfl]
   generalize sfL m e=sf at*
   generalize bdL m e=bd at*
   generalize fJ m e=E at*
   obtain⟨places,roads⟩:=m
   obtain⟨safe,bad,shut,limit⟩:=e
   simp only[ag,q9]at*
   simp (disch:=omega) only[go_sem,K.eC,↓reduceIte,th,fi,hsp,Nat.reduceAdd,Nat.reduceSub]
   rfl
 | false=>
   rw[if_neg (by simp)]
   have pk:=fun hf=>Sy hm e hp hf
   have wl1:=fun hf=>L4 hm e hp hf
   have dl:=Dz (vw (w1E m e p))
   have lp:=Gm (fJ m e) (sfL m e) (bdL m e) m.places.length s1 s2 p m e (vw (w1E m e p)) (DA (w1E m e p))
   have b2:=fun ep=>Dr (st2 m e p) (sfL m e) (bd2 m e p) ep m.places.length s1 (by unfold bd2;rw[gN,s2]) np (yp _ (iI hm e)) (by have:=Gl (vw (w1E m e p)) (fJ m e);unfold st2;omega) p hp
   have e2:p7 (bdL m e) (DA (w1E m e p)) (DA (w1E m e p)).length=bd2 m e p:=rfl
   have e3:yn (vw (w1E m e p)) (fJ m e)=st2 m e p:=rfl
   have db:Gd (fJ m e) (sfL m e) (bdL m e) m.places.length p=if c1E m e p<il then .tup [.t (tL (vw (w1E m e p))),I (c1E m e p),.t (tL ((p:Int)::DA (w1E m e p))),B true]else .tup [.t (tL []),I 0,.t (tL []),B false]:=rfl
   have db2:Gd (st2 m e p) (sfL m e) (bd2 m e p) m.places.length p=if c2E m e p<il then .tup [.t (tL (vw (w2E m e p))),I (c2E m e p),.t (tL ((p:Int)::DA (w2E m e p))),B true]else .tup [.t (tL []),I 0,.t (tL []),B false]:=rfl
   by_cases h1:c1E m e p<il
   · rw[if_pos h1]
     rw[if_pos h1]at db
     have pk:=pk h1
     have wl1:=wl1 h1
     have pm:∀x∈DA (w1E m e p),0≤x∧x<m.places.length:=by
      intro x hx
      obtain⟨y,hy,rfl⟩:=List.mem_map.1 hx
      have:=(pk.mem y hy).2.2
      omega
     have lp:=lp pm (by simp;omega) np (c1E m e p)
     have dl:=dl (by simp;omega) (fJ m e) (by omega)
     rw[e2]at lp
     rw[e3]at dl
     rw[db]at b1
     have c1:=p6 (sf:=sfL m e) (bd:=bdL m e) (iI hm e) np hp h1
     have c2:=fun h2=>p6 (sf:=sfL m e) (bd:=bd2 m e p) (yp (vw (w1E m e p)) (iI hm e)) np hp h2
     have ml:(DA (w1E m e p)).length≤64000000:=by simp;omega
     have rl:(vw (w1E m e p)).length≤64000000:=by simp;omega
     have e4:(nth (iH (fJ m e) (sfL m e) (bdL m e) m.places.length) p).t=c1E m e p:=rfl
     rw[e4]at c1
     generalize hep:(if(fJ m e).all (je (vw (w1E m e p)))=true then 0 else 1)=ep at*
     have b2:=b2 ep
     rw[db2]at b2
     clear db db2 e2 e3 pm pk wl1 e4 hep c2
     generalize DA (w1E m e p)=PM at*
     generalize vw (w1E m e p)=PR at*
     generalize DA (w2E m e p)=QM at*
     generalize vw (w2E m e p)=QR at*
     generalize c1E m e p=t1 at*
     generalize c2E m e p=t2 at*
     generalize st2 m e p=E2 at*
     generalize bd2 m e p=bdx at*
     generalize sfL m e=sf at*
     generalize bdL m e=bd at*
     generalize fJ m e=E at*
     obtain⟨places,roads⟩:=m
     obtain⟨safe,bad,shut,limit⟩:=e
     simp only[ag,q9]at*
     simp (disch:=omega) only[go_sem,K.eC,↓reduceIte,th,fi,hsp,b1,Nat.reduceMul,Nat.reduceAdd,Nat.reduceSub]
     refine gw (lp _ _ _ _ _ _ _ _ _) ?_
     by_cases h2:t2<il
     · rw[if_pos h2]
       rw[if_pos h2]at b2
       simp (disch:=omega) only[go_sem,K.eC,↓reduceIte,dl,b2,Nat.reduceMul,Nat.reduceAdd,Nat.reduceSub]
     · rw[if_neg h2]
       rw[if_neg h2]at b2
       simp (disch:=omega) only[go_sem,K.eC,↓reduceIte,dl,b2,Nat.reduceMul,Nat.reduceAdd,Nat.reduceSub]
       rfl
   · rw[if_neg h1]
     rw[if_neg h1]at db
     rw[db]at b1
     clear db db2 b2 e2 e3 lp dl wl1 pk
     generalize sfL m e=sf at*
     generalize bdL m e=bd at*
     generalize fJ m e=E at*
     obtain⟨places,roads⟩:=m
     obtain⟨safe,bad,shut,limit⟩:=e
     simp only[ag,q9,tL,List.map_nil]at*
     simp (disch:=omega) only[go_sem,K.eC,↓reduceIte,th,fi,hsp,b1,Nat.reduceAdd,Nat.reduceSub]
def fp(m:bj)(e:Esc)(p:Nat):Bool:=
 if nth (sfL m e) p=true then decide (L0 m p≤e.limit)
 else decide (c1E m e p<il∧c2E m e p<il∧L0 m p+max (c1E m e p) (c2E m e p)≤e.limit)
theorem um{m:bj}(hm:m.ok){e:Esc}(he:e.ok m)(p:Nat)(hp:p<m.places.length):bY 0 N.bH [.t m.e,.t e.e,I p] []=some (B (fp m e p),[]):=by
 refine aX K.kH rfl ?_
 have tw:=Sz hm he p hp
 have lg:=L3 hm p hp
 have lb:=yo hm p m.roads.length (Nat.le_refl _)
 have le:AU m p m.roads.length=L0 m p:=rfl
 rw[le]at lb
 have c1:=fun h1=>p6 (sf:=sfL m e) (bd:=bdL m e) (iI hm e) hm.np hp h1
 have c2:=fun h2=>p6 (sf:=sfL m e) (bd:=bd2 m e p) (yp (vw (w1E m e p)) (iI hm e)) hm.np hp h2
 have e1:(nth (iH (fJ m e) (sfL m e) (bdL m e) m.places.length) p).t=c1E m e p:=rfl
 have e2:(nth (iH (yn (vw (w1E m e p)) (fJ m e)) (sfL m e) (bd2 m e p) m.places.length) p).t=c2E m e p:=rfl
 rw[e1]at c1
 rw[e2]at c2
 unfold fp
 unfold X0 at tw
 generalize L0 m p=lag at*
 generalize c1E m e p=t1 at*
 generalize c2E m e p=t2 at*
 generalize tL (vw (w1E m e p))=PR at*
 generalize tL (vw (w2E m e p))=QR at*
 generalize tL []=NR at*
 have fc:il=1152921504606846976:=rfl
 clear e1 e2 le
 cases hs:nth (sfL m e) p with
 | true=>
   rw[hs,if_pos rfl]at tw
   rw[if_pos rfl]
   clear hs c1 c2
   obtain⟨places,roads⟩:=m
   obtain⟨safe,bad,shut,limit⟩:=e
   have:=he.l0
   have:=he.l1
   simp only at*
   have mx:max (0:Int) 0=0:=by omega
   by_cases c:lag≤limit
   · simp (disch:=omega) only[go_sem,K.bH,↓reduceIte,tw,lg,c,Int.add_zero,mx,decide_true,Nat.reduceMul,Nat.reduceAdd,Nat.reduceSub]
   · simp (disch:=omega) only[go_sem,K.bH,↓reduceIte,tw,lg,c,Int.add_zero,mx,decide_false,Nat.reduceMul,Nat.reduceAdd,Nat.reduceSub]
 | false=>
   rw[hs,if_neg (by simp)]at tw
   rw[if_neg (by simp)]
   clear hs
   obtain⟨places,roads⟩:=m
   obtain⟨safe,bad,shut,limit⟩:=e
   have:=he.l0
   have:=he.l1
   simp only at*
   by_cases h1:t1<il
   · rw[if_pos h1]at tw
     have c1:=c1 h1
     by_cases h2:t2<il
     · rw[if_pos h2]at tw
       have c2:=c2 h2
       by_cases c:lag+max t1 t2≤limit
       · simp (disch:=omega) only[go_sem,K.bH,↓reduceIte,tw,lg,c,h1,h2,decide_true,Nat.reduceMul,and_self,Nat.reduceAdd,Nat.reduceSub]
       · simp (disch:=omega) only[go_sem,K.bH,↓reduceIte,tw,lg,c,h1,h2,decide_false,Nat.reduceMul,and_false,Nat.reduceAdd,Nat.reduceSub]
     · rw[if_neg h2]at tw
       clear c2
       simp (disch:=omega) only[go_sem,K.bH,↓reduceIte,tw,lg,h2,false_and,and_false,decide_false,Nat.reduceAdd,Nat.reduceSub]
   · rw[if_neg h1]at tw
     clear c1 c2
     simp (disch:=omega) only[go_sem,K.bH,↓reduceIte,tw,lg,h1,false_and,decide_false,Nat.reduceAdd,Nat.reduceSub]
def clR(r:Road)(b:Bool):Road:={ r with closed:=b}
def clN(rs:List Road)(l:List Int)(b:Bool):Nat→List Road
 | 0=>rs
 | j+1=>(clN rs l b j).set (nth l j).toNat (clR (nth (clN rs l b j) (nth l j).toNat) b)
theorem iY(rs:List Road)(l:List Int)(b:Bool):∀j,(clN rs l b j).length=rs.length
 | 0=>rfl
 | j+1=>by simp only[clN,List.length_set];exact iY rs l b j
theorem yq{L:List Road}{i j:Nat}{a:Road}(h:j≠i):nth (L.set j a) i=nth L i:=by
 unfold nth
 simp only[List.getD_eq_getElem?_getD,List.getElem?_set_ne h]
theorem yu(rs:List Road)(l:List Int)(b:Bool)(p:Nat)(hp:p<rs.length)(h0:∀x∈l,0≤x):∀j,j≤l.length→nth (clN rs l b j) p=if(p:Int)∈l.take j then clR (nth rs p) b else nth rs p
 | 0,_=>by simp[clN]
 | j+1,hj=>by
   have ih:=yu rs l b p hp h0 j (by omega)
   have hx:0≤nth l j:=h0 _ (b9 (by omega))
   have tk:l.take (j+1)=l.take j++[nth l j]:=by
    rw[List.take_succ,gL (by omega)];rfl
   simp only[clN]
   by_cases c:(nth l j).toNat=p
   · have m:(p:Int)∈l.take (j+1):=by
      rw[tk,List.mem_append,List.mem_singleton];right;omega
     rw[if_pos m,c]
     have:nth ((clN rs l b j).set p (clR (nth (clN rs l b j) p) b)) p=clR (nth (clN rs l b j) p) b:=m6 (List.getElem?_set_self (by rw[iY];exact hp))
     rw[this,ih]
     split<;>rfl
   · rw[yq c,ih]
     have:((p:Int)∈l.take (j+1))=((p:Int)∈l.take j):=by
      rw[tk,List.mem_append,List.mem_singleton]
      exact propext ⟨fun h=>h.elim id (fun h=>absurd (by omega) c),.inl⟩
     simp only[this]
def jt(m:bj)(shut opn:List Int):bj:=⟨m.places,clN (clN m.roads shut true shut.length) opn false opn.length⟩
theorem ef(m:bj)(s o:List Int):(jt m s o).roads.length=m.roads.length:=by unfold jt;rw[iY,iY]
theorem p8{m:bj}{s o:List Int}(hs:nB s m.roads.length=true)(ho:nB o m.roads.length=true){p:Nat}(hp:p<m.roads.length):
 nth (jt m s o).roads p=if(p:Int)∈o then clR (nth m.roads p) false else if(p:Int)∈s then clR (nth m.roads p) true else nth m.roads p:=by
 unfold jt
 simp only
 rw[yu _ _ _ p (by rw[iY];exact hp) (fun x hx=>(mr ho x hx).1) _ (Nat.le_refl _),yu _ _ _ p hp (fun x hx=>(mr hs x hx).1) _ (Nat.le_refl _),List.take_length,List.take_length]
 by_cases c:(p:Int)∈o
 · rw[if_pos c,if_pos c];split<;>rfl
 · rw[if_neg c,if_neg c]
theorem DC{m:bj}(h:m.ok){s o:List Int}(hs:nB s m.roads.length=true)(ho:nB o m.roads.length=true):(jt m s o).ok:=by
 refine⟨h.np,by rw[ef];exact h.nr,h.hs,?_⟩
 intro r hr
 obtain⟨j,hj,rfl⟩:=List.mem_iff_getElem.1 hr
 have e2:nth (jt m s o).roads j=(jt m s o).roads[j]:=m6 (List.getElem?_eq_getElem hj)
 rw[← e2]
 rw[ef]at hj
 rw[p8 hs ho hj]
 have hx:(nth m.roads j).ok m.places.length:=h.rs _ (b9 hj)
 obtain⟨a1,a2,a3,a4,a5,a6,a7,a8,a9,b1,b2,b3,b4,b5,b6⟩:=hx
 split
 · exact⟨a1,a2,a3,a4,a5,a6,a7,a8,a9,b1,b2,b3,b4,b5,b6⟩
 · split
   · exact⟨a1,a2,a3,a4,a5,a6,a7,a8,a9,b1,b2,b3,b4,b5,b6⟩
   · exact⟨a1,a2,a3,a4,a5,a6,a7,a8,a9,b1,b2,b3,b4,b5,b6⟩
theorem DD(o:List Int)(ho:o.length≤1000000)(x:Int):bY 0 N.aQ [I x,.bp 0 0] [.box [.t (tL o)]]=some (B (decide (x∈o)),[.box [.t (tL o)]]):=by
 refine aX K.fj rfl ?_
 have cn:=nC o x (by omega)
 simp (disch:=omega) only[go_sem,K.aQ,↓reduceIte,cn,Nat.reduceAdd,Nat.reduceSub]
abbrev OW(l:List Road):Obj:= .arr 10 false 0 ((l.map Road.e).map .t)
theorem zE(L:List Road)(j:Nat)(x:Road)(t:T)(h:x.e=t):(List.map D.t (List.map Road.e L)).set j (D.t t)=List.map D.t (List.map Road.e (L.set j x)):=by
 simp only[List.map_set,h]
theorem SA(rs:List Road)(pl:List Place)(l o:List Int)(hr:rs.length≤1000)(hl:l.length≤1000)(hm:∀x∈l,0≤x∧x<rs.length)(m:bj)(z0 z1 z2 z3 z6 z7 z9 z10 z14 z15 z16:D):
 exS bY K.iU ⟨[z0,z1,z2,z3,.bp 1 0,.bp 2 0,z6,z7,.bp 3 0,z9,z10,.t (tL l),I l.length,I 0,z14,z15,z16],[.box (ag m),.box [.t (tL o)],.box [.nil,.nil],.box [.t (.sl (pl.map Place.e)),.ref 4 0 rs.length],OW rs]⟩=
  some (.exit 1,⟨[.und,.und,.und,.und,.bp 1 0,.bp 2 0,.und,.und,.bp 3 0,.und,.und,.t (tL l),I l.length,I l.length,.und,.und,.und],[.box (ag m),.box [.t (tL o)],.box [.nil,.nil],.box [.t (.sl (pl.map Place.e)),.ref 4 0 rs.length],OW (clN rs l true l.length)]⟩):=by
 refine ei (fun j=>⟨[.und,.und,.und,.und,.bp 1 0,.bp 2 0,.und,.und,.bp 3 0,.und,.und,.t (tL l),I l.length,I j,.und,.und,.und],[.box (ag m),.box [.t (tL o)],.box [.nil,.nil],.box [.t (.sl (pl.map Place.e)),.ref 4 0 rs.length],OW (clN rs l true j)]⟩) l.length (by simp only[go_sem,clN]) ?_ ?_ (by simp)
 · intro j hj
   have ln:=iY rs l true j
   have hx:=hm _ (b9 hj)
   simp only[clN]
   generalize clN rs l true j=L at*
   generalize hy:nth L (nth l j).toNat=y at*
   obtain⟨frm,to,len,ar,walk,closed,rl,rh,ll,lh⟩:=y
   simp (disch:=omega) only[go_sem,K.fg,↓reduceIte,hy,zE L (nth l j).toNat ⟨frm,to,len,ar,walk,true,rl,rh,ll,lh⟩ _ rfl,Nat.reduceAdd,Nat.reduceSub]
   rfl
 · have ln:=iY rs l true l.length
   generalize clN rs l true l.length=L at*
   simp (disch:=omega) only[go_sem,K.fg,↓reduceIte,Nat.reduceAdd,Nat.reduceSub]
theorem SB(rs:List Road)(pl:List Place)(l o:List Int)(hr:rs.length≤1000)(hl:l.length≤1000)(hm:∀x∈l,0≤x∧x<rs.length)(m:bj)(z0 z1 z2 z3 z4 z6 z7 z9 z10 z11 z12 z13:D):
 exS bY K.iV ⟨[z0,z1,z2,z3,z4,.bp 2 0,z6,z7,.bp 3 0,z9,z10,z11,z12,z13,.t (tL l),I l.length,I 0],[.box (ag m),.box [.t (tL o)],.box [.nil,.nil],.box [.t (.sl (pl.map Place.e)),.ref 4 0 rs.length],OW rs]⟩=
  some (.exit 3,⟨[.und,.und,.und,.und,.und,.bp 2 0,.und,.und,.bp 3 0,.und,.und,.und,.und,.und,.t (tL l),I l.length,I l.length],[.box (ag m),.box [.t (tL o)],.box [.nil,.nil],.box [.t (.sl (pl.map Place.e)),.ref 4 0 rs.length],OW (clN rs l false l.length)]⟩):=by
 refine ei (fun j=>⟨[.und,.und,.und,.und,.und,.bp 2 0,.und,.und,.bp 3 0,.und,.und,.und,.und,.und,.t (tL l),I l.length,I j],[.box (ag m),.box [.t (tL o)],.box [.nil,.nil],.box [.t (.sl (pl.map Place.e)),.ref 4 0 rs.length],OW (clN rs l false j)]⟩) l.length (by simp only[go_sem,clN]) ?_ ?_ (by simp)
 · intro j hj
   have ln:=iY rs l false j
   have hx:=hm _ (b9 hj)
   simp only[clN]
   generalize clN rs l false j=L at*
   generalize hy:nth L (nth l j).toNat=y at*
   obtain⟨frm,to,len,ar,walk,closed,rl,rh,ll,lh⟩:=y
   simp (disch:=omega) only[go_sem,K.fh,↓reduceIte,hy,zE L (nth l j).toNat ⟨frm,to,len,ar,walk,false,rl,rh,ll,lh⟩ _ rfl,Nat.reduceAdd,Nat.reduceSub]
   rfl
 · have ln:=iY rs l false l.length
   generalize clN rs l false l.length=L at*
   simp (disch:=omega) only[go_sem,K.fh,↓reduceIte,Nat.reduceAdd,Nat.reduceSub]
theorem nO{m:bj}(hm:m.ok){s o:List Int}(hs:nB s m.roads.length=true)(ho:nB o m.roads.length=true):
 bY 0 N.aI [.t m.e,.t (tL s),.t (tL o)] []=some (if s.any (fun x=>decide (x∈o))=true then .tup [.t (bj.e ⟨[],[]⟩),I 4]else .tup [.t (jt m s o).e,I 0],[]):=by
 refine aX K.gq rfl ?_
 have np:=hm.np
 have nr:=hm.nr
 have pv:=lE hm
 have sl:=oS hs
 have ol:=oS ho
 have r1:=lH s 0 (m.roads.length-1) (by omega)
 have r2:=lH o 0 (m.roads.length-1) (by omega)
 rw[sA,hs]at r1
 rw[sA,ho]at r2
 have cf:=sw s (by omega) N.aQ [[tL o]] (fun x=>decide (x∈o)) (fun x _=>DD o (by omega) x)
 have cf:bY 0 N.av [.t (tL s),.fn N.aQ [.bp 0 0]] [.box [.t (tL o)]]=some (B (s.any (fun x=>decide (x∈o))),[.box [.t (tL o)]]):=cf
 have k1:=AD m.places (by omega)
 have k2:=AE m.roads (by omega)
 have l1:=SA m.roads m.places s o (by omega) (by omega) (mr hs) m
 have cl:=iY m.roads s true s.length
 have l2:=SB (clN m.roads s true s.length) m.places o o (by omega) (by omega) (by rw[cl];exact mr ho) m
 have cl2:=iY (clN m.roads s true s.length) o false o.length
 rw[cl]at cl2 l2
 unfold jt
 generalize s.any (fun x=>decide (x∈o))=c at*
 generalize clN (clN m.roads s true s.length) o false o.length=R2 at*
 generalize clN m.roads s true s.length=R1 at*
 obtain⟨places,roads⟩:=m
 simp only[ag]at*
 cases c with
 | true=>
   rw[if_pos rfl]
   simp (disch:=omega) only[go_sem,K.aI,↓reduceIte,pv,r1,r2,cf,Bool.not_true,Nat.reduceAdd,Nat.reduceSub]
   rfl
 | false=>
   rw[if_neg (by simp)]
   simp (disch:=omega) only[go_sem,K.aI,↓reduceIte,pv,r1,r2,cf,Bool.not_true,k1,k2,Nat.reduceAdd,Nat.reduceSub]
   refine gw (l1 _ _ _ _ _ _ _ _ _ _ _) ?_
   simp (disch:=omega) only[go_sem,K.aI,↓reduceIte,Nat.reduceAdd,Nat.reduceSub]
   refine gw (l2 _ _ _ _ _ _ _ _ _ _ _ _) ?_
   simp (disch:=omega) only[go_sem,K.aI,↓reduceIte,Nat.reduceAdd,Nat.reduceSub]
theorem Gn(m:bj)(hp:m.places.length≤1000000)(hr:m.roads.length≤1000000):bY 0 N.bV [.t m.e,.t m.e] []=some (B true,[]):=by
 refine aX K.ig rfl ?_
 have l1:∀z0 z1 z4 z6:D,exS bY K.jZ ⟨[z0,z1,.bp 0 0,.bp 1 0,z4,I 0,z6],[.box (ag m),.box (ag m)]⟩=
  some (.exit 0,⟨[.und,.und,.bp 0 0,.bp 1 0,.und,I m.places.length,.und],[.box (ag m),.box (ag m)]⟩):=by
  intro z0 z1 z4 z6
  refine ei (fun j=>⟨[.und,.und,.bp 0 0,.bp 1 0,.und,I j,.und],[.box (ag m),.box (ag m)]⟩) m.places.length rfl ?_ ?_ (by simp)
  · intro j hj
    have ex:(m.places.map Place.e)[j]?=some (nth m.places j).e:=ek _ hj
    generalize nth m.places j=x at*
    obtain⟨h,s⟩:=x
    obtain⟨places,roads⟩:=m
    simp only[ag]at*
    simp (disch:=omega) only[go_sem,K.gg,↓reduceIte,ex,decide_true,Bool.and_self,Bool.not_true,Nat.reduceAdd,Nat.reduceSub]
  · obtain⟨places,roads⟩:=m
    simp only[ag]at*
    simp (disch:=omega) only[go_sem,K.gg,↓reduceIte,Nat.reduceAdd,Nat.reduceSub]
 have l2:∀z0 z1 z4 z5:D,exS bY K.j3 ⟨[z0,z1,.bp 0 0,.bp 1 0,z4,z5,I 0],[.box (ag m),.box (ag m)]⟩=
  some (.exit 2,⟨[.und,.und,.bp 0 0,.bp 1 0,.und,.und,I m.roads.length],[.box (ag m),.box (ag m)]⟩):=by
  intro z0 z1 z4 z5
  refine ei (fun j=>⟨[.und,.und,.bp 0 0,.bp 1 0,.und,.und,I j],[.box (ag m),.box (ag m)]⟩) m.roads.length rfl ?_ ?_ (by simp)
  · intro j hj
    have ex:(m.roads.map Road.e)[j]?=some (nth m.roads j).e:=ek _ hj
    generalize nth m.roads j=x at*
    obtain⟨frm,to,len,ar,walk,closed,rl,rh,ll,lh⟩:=x
    obtain⟨places,roads⟩:=m
    simp only[ag]at*
    simp (disch:=omega) only[go_sem,K.gj,↓reduceIte,ex,decide_true,Bool.and_self,Bool.not_true,Nat.reduceAdd,Nat.reduceSub]
  · obtain⟨places,roads⟩:=m
    simp only[ag]at*
    simp (disch:=omega) only[go_sem,K.gj,↓reduceIte,Nat.reduceAdd,Nat.reduceSub]
 obtain⟨places,roads⟩:=m
 simp only[ag]at*
 simp (disch:=omega) only[go_sem,K.bV,↓reduceIte,l1,l2,Nat.reduceAdd,Nat.reduceSub]
theorem DE{m n:bj}(hm:m.ok)(hn:n.ok){e:Esc}(h1:e.ok m)(h2:e.ok n)(hl:n.places.length=m.places.length)(p:Nat)(hp:p<m.places.length):
 bY 0 N.aR [I p,.bp 0 0,.bp 1 0,.bp 2 0] [.box (ag m),.box (q9 e),.box (ag n)]=some (B (fp m e p&& !fp n e p),[.box (ag m),.box (q9 e),.box (ag n)]):=by
 refine aX K.fk rfl ?_
 have e1:=um hm h1 p hp
 have e2:=um hn h2 p (by omega)
 generalize fp m e p=a at*
 generalize fp n e p=b at*
 obtain⟨places,roads⟩:=m
 obtain⟨pl2,rd2⟩:=n
 obtain⟨safe,bad,shut,limit⟩:=e
 simp only[ag,q9]at*
 cases a<;>cases b
 all_goals simp (disch:=omega) only[go_sem,K.aR,↓reduceIte,e1,e2,Bool.not_true,Bool.not_false,Bool.and_false,Bool.and_true,Bool.false_and,Bool.true_and,Nat.reduceAdd,Nat.reduceSub]
theorem Gp{m n:bj}(hm:m.ok)(hn:n.ok){e:Esc}(h1:e.ok m)(h2:e.ok n)(hl:n.places.length=m.places.length):
 bY 0 N.bk [.t m.e,.t n.e,.t e.e] []=some (.t (tL (gR m.places.length fun p=>fp m e p&& !fp n e p)),[]):=by
 refine aX K.gr rfl ?_
 have np:=hm.np
 have v1:=lT hm h1
 have v2:=lT hn h2
 have wh:=Ff m.places.length (by omega) N.aR [[.sl (m.places.map Place.e),.sl (m.roads.map Road.e)],[tL e.safe,tL e.bad,tL e.shut,tI e.limit],[.sl (n.places.map Place.e),.sl (n.roads.map Road.e)]] (fun p=>fp m e p&& !fp n e p) (fun k hk=>DE hm hn h1 h2 hl k hk)
 have wh:bY 0 N.cP [I m.places.length,.fn N.aR [.bp 0 0,.bp 1 0,.bp 2 0]] [.box (ag m),.box (q9 e),.box (ag n)]=some (.t (tL (gR m.places.length fun p=>fp m e p&& !fp n e p)),[.box (ag m),.box (q9 e),.box (ag n)]):=wh
 generalize (gR m.places.length fun p=>fp m e p&& !fp n e p)=r at*
 obtain⟨places,roads⟩:=m
 obtain⟨pl2,rd2⟩:=n
 obtain⟨safe,bad,shut,limit⟩:=e
 simp only[ag,q9]at*
 simp (disch:=omega) only[go_sem,K.bk,↓reduceIte,v1,v2,wh,Bool.not_true,Nat.reduceAdd,Nat.reduceSub]
theorem DF{d:aE}(hd:d.dn)(k n:Int)(h0:0≤k)(hk:k≤1000)(h1:1≤n)(hn:n≤1000):
 ∃(b:Bool) (d2:aE) (x:Int) (d3:aE),bY 0 N.aW [.bp 0 0,I k] [d.obj]=some (B b,[d2.obj])∧(b=true∧bY 0 N.aD [.bp 0 0,I n] [d2.obj]=some (I x,[d3.obj])∨b=false∧d2=d3)∧d3.dn∧0≤x∧x<n:=by
 obtain⟨b,d2,c2,l2⟩:=R4 hd k h0 (by omega)
 obtain⟨x,d3,c3,l3,x0,x1⟩:=R3 l2 n h1 (by omega)
 cases b with
 | true=>exact⟨true,d2,x,d3,c2,.inl ⟨rfl,c3⟩,l3,x0,x1⟩
 | false=>exact⟨false,d2,x,d2,c2,.inr ⟨rfl,rfl⟩,l2,x0,x1⟩
theorem sM{b:Bool}{x n:Int}(h0:0≤x)(h1:x<n):nB (if b=true then [x]else []) n=true:=by
 cases b with
 | true=>exact Sj h0 h1
 | false=>rfl
theorem Gq{d:aE}(hd:d.dn){m:bj}(hm:m.ok)(h1:1≤m.places.length)(h2:1≤m.roads.length):
 ∃(e:Esc) (d':aE),bY 0 N.bM [.bp 0 0,.t m.e] [d.obj]=some (.t e.e,[d'.obj])∧d'.dn∧e.ok m∧e.limit≤1000∧e.safe.length≤1∧e.bad.length≤1∧e.shut.length≤1:=by
 have np:=hm.np
 have nr:=hm.nr
 obtain⟨lim,d1,c1,l1,m1⟩:=Z3 hd [600,100,60,1000,0] (by simp) (by simp)
 have lm:0≤lim∧lim≤1000:=by
  simp only[List.mem_cons,List.not_mem_nil,or_false]at m1
  omega
 have c1:bY 0 N.bu [.bp 0 0,.t (.sl [tI 600,tI 100,tI 60,tI 1000,tI 0])] [d.obj]=some (I lim,[d1.obj]):=c1
 obtain⟨b1,d2,x1,d3,a1,a2,l3,x10,x11⟩:=DF l1 3 m.places.length (by omega) (by omega) (by omega) (by omega)
 obtain⟨b2,d4,x2,d5,a4,a5,l5,x20,x21⟩:=DF l3 4 m.places.length (by omega) (by omega) (by omega) (by omega)
 obtain⟨b3,d6,x3,d7,a7,a8,l7,x30,x31⟩:=DF l5 4 m.roads.length (by omega) (by omega) (by omega) (by omega)
 refine⟨⟨if b1=true then [x1]else [],if b2=true then [x2]else [],if b3=true then [x3]else [],lim⟩,d7,?_,l7,⟨sM x10 x11,sM x20 x21,sM x30 x31,lm.1,by simp only;omega⟩,lm.2,?_,?_,?_⟩
 · refine aX K.gp rfl ?_
   obtain⟨places,roads⟩:=m
   simp only[ag]at*
   have r0:(0:Int)<roads.length:=by omega
   rcases a2 with⟨rfl,a2⟩ | ⟨rfl,a2⟩<;>rcases a5 with⟨rfl,a5⟩ | ⟨rfl,a5⟩<;>rcases a8 with⟨rfl,a8⟩ | ⟨rfl,a8⟩
   all_goals
    simp (disch:=omega) only[go_sem,K.bM,↓reduceIte,c1,a1,a2,a4,a5,a7,a8,r0,Nat.reduceAdd,Nat.reduceSub]
    rfl
 · cases b1<;>simp
 · cases b2<;>simp
 · cases b3<;>simp
theorem DG{a b:bj}(hp:a.places=b.places)(hl:a.roads.length=b.roads.length)(h:∀k,k<a.roads.length→nth a.roads k=nth b.roads k):a=b:=by
 obtain⟨p1,r1⟩:=a
 obtain⟨p2,r2⟩:=b
 simp only at hp hl h
 subst hp
 have:r1=r2:=by
  refine List.ext_getElem? fun i=>?_
  by_cases hi:i<r1.length
  · rw[gL hi,gL (by omega),h i hi]
  · rw[List.getElem?_eq_none (by omega),List.getElem?_eq_none (by omega)]
 rw[this]
theorem DH(m:bj):jt m [] []=m:=by
 unfold jt
 simp only[List.length_nil,clN]
theorem AV{m:bj}{s:List Int}(hs:nB s m.roads.length=true)(hc:∀x∈s,(nth m.roads x.toNat).closed=false):jt (jt m s []) [] s=m:=by
 refine DG rfl (by rw[ef,ef]) fun k hk=>?_
 rw[ef,ef]at hk
 rw[p8 (show nB [] _=true from rfl) (by rw[ef];exact hs) (by rw[ef];exact hk),p8 hs (show nB [] _=true from rfl) hk]
 by_cases c:(k:Int)∈s
 · rw[if_pos c,if_neg (by simp),if_pos c]
   have:=hc _ c
   rw[Int.toNat_natCast]at this
   generalize nth m.roads k=x at*
   obtain⟨frm,to,len,ar,walk,closed,rl,rh,ll,lh⟩:=x
   simp only at this
   subst this
   rfl
 · rw[if_neg c,if_neg (by simp),if_neg (by simp),if_neg c]
structure BkG(m:bj)(l:List Int)(j:Nat):Prop where
 s:nB l (j:Int)=true
 ln:l.length≤j
 c:∀x∈l,(nth m.roads x.toNat).closed=false
theorem BkG.zero(m:bj):BkG m [] 0:=⟨rfl,Nat.le_refl _,by simp⟩
theorem BkG.skip{m:bj}{l:List Int}{j:Nat}(h:BkG m l j):BkG m l (j+1):=⟨(wQ h.s).1,by have:=h.ln;omega,h.c⟩
theorem BkG.add{m:bj}{l:List Int}{j:Nat}(h:BkG m l j)(hc:(nth m.roads j).closed=false):BkG m (l++[(j:Int)]) (j+1):=by
 refine⟨(wQ h.s).2,by have:=h.ln;simp;omega,fun x hx=>?_⟩
 rcases List.mem_append.1 hx with hx | hx
 · exact h.c x hx
 · rw[List.mem_singleton]at hx
   subst hx
   rw[Int.toNat_natCast]
   exact hc
theorem L5{d0:aE}(hd:d0.dn){m:bj}(hm:m.ok)(z0 z1 z6 z7 z8 z9 z10 z11 z12:D):
 ∃(d:aE) (l:List Int),d.dn∧BkG m l m.roads.length∧exS bY K.dX ⟨[z0,z1,.bp 0 0,.bp 1 0,.ref 2 0 0,I 0,z6,z7,z8,z9,z10,z11,z12],[d0.obj,.box (ag m),Bj []]⟩=
  some (.exit 0,⟨[.und,.und,.bp 0 0,.bp 1 0,.ref 2 0 l.length,I m.roads.length,.und,.und,.und,.und,.und,.und,.und],[d.obj,.box (ag m),Bj l]⟩):=by
 have nr:=hm.nr
 have key:=FO (vs:=[z0,z1,.bp 0 0,.bp 1 0,.ref 2 0 0,I 0,z6,z7,z8,z9,z10,z11,z12]) (H:=[d0.obj,.box (ag m),Bj []]) (c:=K.bD) (gc:=true) (dead:=[0,1,6,7,8,9,10,11,12])
  (fun j st=>∃(d:aE) (l:List Int),d.dn∧BkG m l j∧st=⟨[.und,.und,.bp 0 0,.bp 1 0,.ref 2 0 l.length,I j,.und,.und,.und,.und,.und,.und,.und],[d.obj,.box (ag m),Bj l]⟩)
  m.roads.length (fun q=>∃(d:aE) (l:List Int),d.dn∧BkG m l m.roads.length∧q=(.exit 0,⟨[.und,.und,.bp 0 0,.bp 1 0,.ref 2 0 l.length,I m.roads.length,.und,.und,.und,.und,.und,.und,.und],[d.obj,.box (ag m),Bj l]⟩))
  ⟨d0,[],hd,BkG.zero m,by simp only[go_sem,List.length_nil]⟩ ?_ ?_
 · obtain⟨q,h1,d,l,hl,hg,h2⟩:=key
   refine⟨d,l,hl,hg,?_⟩
   rw[← h2]
   exact h1
 · rintro j st hj ⟨d,l,hl,hg,rfl⟩
   have ex:(m.roads.map Road.e)[j]?=some (nth m.roads j).e:=ek _ hj
   have ll:=hg.ln
   cases hx:(nth m.roads j).closed with
   | true=>
     refine⟨_,?_,d,l,hl,hg.skip,rfl⟩
     generalize nth m.roads j=x at*
     obtain⟨frm,to,len,ar,walk,closed,rl,rh,lfl,lh⟩:=x
     obtain⟨places,roads⟩:=m
     simp only[ag]at*
     simp (disch:=omega) only[go_sem,K.bD,↓reduceIte,ex,hx,Bool.not_true,Nat.reduceAdd,Nat.reduceSub]
   | false=>
     obtain⟨b,d2,o,l2⟩:=R4 hl 3 (by omega) (by omega)
     cases b with
     | false=>
       refine⟨_,?_,d2,l,l2,hg.skip,rfl⟩
       generalize nth m.roads j=x at*
       obtain⟨frm,to,len,ar,walk,closed,rl,rh,lfl,lh⟩:=x
       obtain⟨places,roads⟩:=m
       simp only[ag]at*
       simp (disch:=omega) only[go_sem,K.bD,↓reduceIte,ex,hx,o,Bool.not_false,Nat.reduceAdd,Nat.reduceSub]
     | true=>
       refine⟨_,?_,d2,l++[(j:Int)],l2,hg.add hx,rfl⟩
       generalize nth m.roads j=x at*
       obtain⟨frm,to,len,ar,walk,closed,rl,rh,lfl,lh⟩:=x
       obtain⟨places,roads⟩:=m
       simp only[ag]at*
       simp (disch:=omega) only[go_sem,K.bD,↓reduceIte,ex,hx,o,Bool.not_false,Nat.reduceAdd,Nat.reduceSub]
       simp only[Bj,List.map_append,List.map_cons,List.map_nil]
 · rintro st ⟨d,l,hl,hg,rfl⟩
   refine⟨_,?_,?_,d,l,hl,hg,rfl⟩
   · obtain⟨places,roads⟩:=m
     simp only[ag]at*
     simp (disch:=omega) only[go_sem,K.bD,↓reduceIte,Nat.reduceAdd,Nat.reduceSub]
   · simp
theorem zF(aw:bY 0 N.dG [] []=some (B true,[]))(li:List Int):bY 0 N.aO [.t (tL li)] []=some (B true,[]):=by
 refine aX K.en rfl ?_
 have lo:=Fa li
 by_cases c:li.length≤400
 · simp only[c,decide_true]at lo
   have ro:=R0 li
   have d0:(aE.mk li 0).dn:=c
   generalize (aE.mk li 0)=d at*
   obtain⟨m,e1,mo,l1,hm,p1,p2,r1,r2⟩:=R5 d0
   have lp:∀z0 z1 z6 z7 z8 z9 z10 z11 z12:D,∃(d:aE) (l:List Int),d.dn∧BkG m l m.roads.length∧exS bY K.dX ⟨[z0,z1,.bp 0 0,.bp 1 0,.ref 2 0 0,I 0,z6,z7,z8,z9,z10,z11,z12],[e1.obj,.box (ag m),Bj []]⟩=
    some (.exit 0,⟨[.und,.und,.bp 0 0,.bp 1 0,.ref 2 0 l.length,I m.roads.length,.und,.und,.und,.und,.und,.und,.und],[d.obj,.box (ag m),Bj l]⟩):=fun z0 z1 z6 z7 z8 z9 z10 z11 z12=>L5 l1 hm z0 z1 z6 z7 z8 z9 z10 z11 z12
   obtain⟨e2,s,l2,hg,lp⟩:=lp (.t (tL li)) (B false) .und .und .und .und .und .und .und
   obtain⟨esc,e3,eo,l3,ev, -⟩:=Gq l2 hm (by omega) (by omega)
   have ss:=hg.s
   have nn:nB ([]:List Int) (m.roads.length:Int)=true:=rfl
   have a1:=nO hm ss nn
   have oa:=DC hm ss nn
   have a2:=nO oa (s:=[]) (o:=s) (by rw[ef];exact nn) (by rw[ef];exact ss)
   have a3:=nO hm nn nn
   rw[AV ss hg.c]at a2
   rw[DH]at a3
   have n1:(s.any fun x=>decide (x∈([]:List Int)))=false:=by simp
   have n2:(([]:List Int).any fun x=>decide (x∈s))=false:=rfl
   have n3:(([]:List Int).any fun x=>decide (x∈([]:List Int)))=false:=rfl
   rw[n1,if_neg (by simp)]at a1
   rw[n2,if_neg (by simp)]at a2
   rw[n3,if_neg (by simp)]at a3
   have sm:=Gn m (by have:=hm.np;omega) (by have:=hm.nr;omega)
   have wo:=Gp hm hm ev ev rfl
   have we:gR m.places.length (fun p=>fp m esc p&& !fp m esc p)=[]:=by
    unfold gR
    rw[List.filter_eq_nil_iff.2 (by simp)]
    rfl
   rw[we]at wo
   clear we n1 n2 n3 nn oa ev hg
   generalize jt m s []=ma at*
   obtain⟨places,roads⟩:=m
   obtain⟨pl2,rd2⟩:=ma
   obtain⟨safe,bad,shut,limit⟩:=esc
   simp only[ag,q9,tL,List.map_nil]at*
   simp (disch:=omega) only[go_sem,K.aO,↓reduceIte,lo,ro,mo,Bool.not_true,Nat.reduceAdd,Nat.reduceSub]
   refine gw lp ?_
   simp (disch:=omega) only[go_sem,K.aO,↓reduceIte,a1,a2,a3,eo,sm,wo,aw,Bool.not_true,Nat.reduceAdd,Nat.reduceSub]
 · simp only[c,decide_false]at lo
   simp (disch:=omega) only[go_sem,K.aO,↓reduceIte,lo,aw,Nat.reduceAdd,Nat.reduceSub]
end Go.Ev
