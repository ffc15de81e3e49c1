/- Parts of the proof: see the text that holds the theorem. -/
import Derived.Test.YtjibfckckknjkaaGreatZ4
set_option linter.all false
open Nat (reduceAdd reduceSub)
set_option maxRecDepth 100000
namespace Go.Ev.K
open Go.Ev
def kX:C:= (.its [u (.bin .lss v15 v14)] [] 0 .skip (.exit 1) (.seq (.blk 2 (q [a 3 v13 v15,h 3 l0,w 12 (.al [z0,z0,.nil] []),u (.st l0 l1 3 [])] [] (.reg [m v11,h 2 v6,h 3 v12,h 2 v7,h 1 v8,m v4,m v5,u (.ca N.bJ 0 [] [.l 5,.l 4,.l 3,.l 2,.l 1,.l 0]),u (.bs [.l 0] 1),u (.app l8 l0 true 1),x 11 l0] []))) (.reg [u (.bin .add v15 (.i 1)),x 15 l0] [])))
def p6:C:= .loop true [0,1,2,3,9,10,12] K.kX
def bI:Fn:= { av:=6,vars:=[0,1,2,3,4,5,6,8,9,12,13,14,16,43,44,45],body:=(q [w 6 (.bx v0 2),w 7 (.bx v2 2),w 8 (.bx v3 1),w 9 (.mv (.c (.nil))),x 10 (.i 0)] [] (.seq (.blk 0 (.ite [h 2 v6,m v1,u (.ca N.dt 0 [] [.l 1,.l 0]),u (.un .not l0),m l0,y 0 false (.ld v6 2 true),y 1 false (.ld v7 2 true),y 2 false (.ca N.gE 0 [] [.l 1,.l 0]),y 3 false (.un .not l0),u (.pk l4 (.b true) l0),m l0,y 0 false (.ld v6 2 true),y 1 false (.ld v8 1 true),y 2 false (.ca N.fL 0 [] [.l 1,.l 0]),y 3 false (.un .not l0),u (.pk l4 (.b true) l0),m l0] [] 0 (q [w 9 (.mv (.c (.nil))),x 10 (.i 6)] [] .ret) (.ite [m v4,u (.ca N.aU 0 [] [.l 0,.i 0,.i 2147483648]),u (.un .not l0),m l0,e 0 false v5,y 1 false (.ca N.aU 0 [] [.l 0,.i 0,.i 2147483648]),y 2 false (.un .not l0),u (.pk l3 (.b true) l0),m l0] [] 0 (q [w 9 (.mv (.c (.nil))),x 10 (.i 8)] [] .ret) .skip))) (q [w 11 (.nw 1)] [] (.seq (q [x 13 v1,w 14 (.ln l0),x 15 (.i 0)] [] (.blk 1 K.p6)) (q [m v11,x 9 l0,x 10 (.i 0)] [] .ret))))),res:=[(9,none),(10,none)]}
def dt:Fn:= { av:=2,vars:=[0,1,2,4,5],body:=(q [w 2 (.bx v0 2),x 3 (.b false)] [] (q [u (.mf N.bO [.v 2]),x 4 l0] [] (q [h 2 v2,u (.ca N.cM 0 [] [.l 0]),m l0,e 0 true v1,y 1 true (.ln l0),y 2 true (.bin .leq l0 (.i 48)),u (.pk l3 l0 (.b false)),m l0,e 0 true v1,e 1 true v4,y 2 true (.ca N.az 0 [] [.l 1,.l 0]),y 3 true (.un .not l0),u (.pk l4 l0 (.b false)),x 3 l0] [] .ret))),res:=[(3,none)]}
def cz:C:= (.its [u (.bin .lss v10 v9)] [] 0 .skip (.exit 0) (.seq (.blk 1 (q [m v10,a 2 v8 v10,h 2 l0,w 7 (.al [.nil,.nil] []),x 6 l3,u (.st l1 l2 2 [])] [] (.blk 2 (.ite [f 0 v7,g l0,u (.ln l0),u (.ca N.aU 0 [] [.l 0,.i 1,.i 12]),u (.un .not l0),m l0,y 0 false (.fa v7 1),i 1 false l0,y 2 false (.ln l0),y 3 false (.fa v7 0),i 4 false l0,y 5 false (.ln l0),y 6 false (.bin .neq l3 l0),u (.pk l7 (.b true) l0),m l0,y 0 false (.fa v7 0),i 1 false l0,y 2 false (.ca N.gj 0 [] [.l 0]),y 3 false (.un .not l0),u (.pk l4 (.b true) l0),m l0] [] 0 (q [x 4 (.b false)] [] .ret) (.ite [f 0 v7,g l0,u (.ca N.bD 0 [] [.l 0]),u (.ca N.cr 0 [] [.l 0]),m v5,u (.ca N.bw 0 [] [.l 1,.l 0]),u (.un .not l0),m l0] [] 0 (q [x 4 (.b false)] [] .ret) (.ite [m v6,u (.bin .gtr l0 (.i 0)),m l0,y 0 true (.fa v3 0),i 1 true l0,e 2 true v6,y 3 true (.bin .sub l0 (.i 1)),y 4 true (.ia l2 l0 2),y 5 true (.fa l0 0),i 6 true l0,y 7 true (.fa v7 0),i 8 true l0,y 9 true (.ca N.bB 0 [] [.l 2,.l 0]),y 10 true (.bin .geq l0 (.i 0)),u (.pk l11 l0 (.b false)),m l0] [] 0 (q [x 4 (.b false)] [] .ret) (.ite [f 1 v7,g l0,u (.mf N.ed [.v 2]),u (.ca N.ak 0 [] [.l 1,.l 0]),m l0] [] 0 (q [x 4 (.b false)] [] .ret) .skip))))))) (.reg [u (.bin .add v10 (.i 1)),x 10 l0] [])))
def s9:C:= .loop true [0,1,4,6,7] K.cz
def fL:Fn:= { av:=2,vars:=[0,1,2,3,4,5,6,7,26,27,28],body:=(q [w 2 (.bx v0 2),w 3 (.bx v1 1),x 4 (.b false)] [] (.seq (.ite [h 2 v2,u (.ca N.cM 0 [] [.l 0]),u (.un .not l0),m l0,y 0 false (.fa v3 0),i 1 false l0,y 2 false (.ln l0),y 3 false (.ca N.aU 0 [] [.l 0,.i 1,.i 24]),y 4 false (.un .not l0),u (.pk l5 (.b true) l0)] [] 0 (q [x 4 (.b false)] [] .ret) .skip) (q [f 0 v3,g l0,a 2 l0 (.i 0),f 0 l0,g l0,u (.ca N.bD 0 [] [.l 0]),u (.ca N.cr 0 [] [.l 0]),x 5 l0] [] (.seq (q [f 0 v3,w 8 (.ld l0 1 false),w 9 (.ln l0),x 10 (.i 0)] [] (.blk 0 K.s9)) (q [x 4 (.b true)] [] .ret))))),res:=[(4,none)]}
def bO:Fn:= { av:=2,vars:=[0,1,2,3],body:=(q [w 2 (.bx v0 3),x 3 (.b false)] [] (q [f 0 v2,g l0,u (.bin .neq l0 (.i 1)),m l0,y 0 true (.fa v2 0),i 1 true l0,y 2 true (.bin .neq l0 (.i 2)),u (.pk l3 l0 (.b false)),m l0,y 0 false (.fa v2 1),i 1 false l0,y 2 false (.ca N.aU 0 [] [.l 0,.i 0,.i 23]),y 3 false (.un .not l0),u (.pk l4 (.b true) l0),m l0,y 0 false (.fa v2 2),i 1 false l0,y 2 false (.ln l0),y 3 false (.bin .eql l0 (.i 0)),u (.pk l4 (.b true) l0),m l0,y 0 false (.fa v2 2),i 1 false l0,y 2 false (.fa v1 0),i 3 false l0,y 4 false (.ln l0),y 5 false (.bin .sub l0 (.i 1)),y 6 false (.ca N.bZ 0 [] [.l 4,.i 0,.l 0]),y 7 false (.un .not l0),u (.pk l8 (.b true) l0),x 3 l0] [] .ret)),res:=[(3,none)]}
def az:Fn:= { av:=2,vars:=[0,1,4],body:=(q [x 2 (.b false)] [] (q [m v0,m v1,u (.ca N.aF 0 [] [.l 1,.l 0]),u (.bin .geq l0 (.i 0)),x 2 l0] [] .ret)),res:=[(2,none)]}
def cr:Fn:= { av:=1,vars:=[2],body:= .fail,res:=[(0,none)],prim:=[2,N.a7]}
def bD:Fn:= { av:=1,vars:=[0,1,2],body:=(q [w 1 (.bx v0 1),w 2 (.mv (.c (.und)))] [] (q [u (.mf N.a7 [.v 1]),x 2 l0] [] .ret)),res:=[(2,none)]}
def gj:Fn:= { av:=1,vars:=[0,2,3],body:=(q [x 1 (.b false)] [] (q [m v0,u (.ca N.bD 0 [] [.l 0]),u (.ca N.cr 0 [] [.l 0]),x 2 l0] [] (q [m v2,u (.ca N.bZ 0 [] [.l 0,.i 1,.i 65535]),x 1 l0] [] .ret))),res:=[(1,none)]}
def dI:C:= (.its [u (.bin .lss v9 v8)] [] 0 .skip (.exit 0) (.seq (.blk 1 (q [m v9,a 1 v7 v9,g l0,x 3 l2,x 4 l1] [] (.seq (.ite [m v3,m v1,u (.ln l0),u (.bin .geq l2 l0)] [] 0 (q [x 2 (.i 1)] [] .ret) .skip) (q [m v1,m v3,a 1 l1 l0,g l0,x 5 l0] [] (q [m v4,m v5,u (.ca N.cW 0 [] [.l 1,.l 0]),x 6 l0] [] (.ite [m v6,u (.bin .neq l0 (.i 0))] [] 0 (q [m v6,x 2 l0] [] .ret) .skip)))))) (.reg [u (.bin .add v9 (.i 1)),x 9 l0] [])))
def m8:C:= .loop true [2,3,4,5,6] K.dI
def bB:Fn:= { av:=2,vars:=[0,1,4,5,6,7,8,9,10,11],body:=(q [x 2 (.i 0)] [] (.seq (q [x 7 v0,w 8 (.ln l0),x 9 (.i 0)] [] (.blk 0 K.m8)) (.seq (.ite [m v0,u (.ln l0),m v1,u (.ln l0),u (.bin .lss l2 l0)] [] 0 (q [w 2 (.mv (.i (-1)))] [] .ret) .skip) (q [x 2 (.i 0)] [] .ret)))),res:=[(2,none)]}
def ak:Fn:= { av:=2,vars:=[0,1,4],body:=(q [x 2 (.b false)] [] (q [m v0,m v1,u (.ca N.aB 0 [] [.l 1,.l 0]),u (.bin .geq l0 (.i 0)),x 2 l0] [] .ret)),res:=[(2,none)]}
def ed:Fn:= { av:=2,vars:=[0,1,2,3],body:=(q [w 2 (.bx v0 2),x 3 (.b false)] [] (q [h 2 v1,h 2 v2,u (.ca N.ga 0 [] [.l 1,.l 0]),u (.un .not l0),x 3 l0] [] .ret)),res:=[(3,none)]}
def bR:C:= (.its [u (.bin .lss v5 v4)] [] 0 .skip (.exit 0) (.seq (.blk 1 (q [m v5,x 3 l0] [] (.ite [m v1,m v0,m v3,a 3 l1 l0,h 3 l0,u (.cw l4 0 [] [.l 0])] [] 0 (q [m v3,x 2 l0] [] .ret) .skip))) (.reg [u (.bin .add v5 (.i 1)),x 5 l0] [])))
def fc:C:= .loop true [2,3] K.bR
def aF:Fn:= { av:=2,vars:=[0,1,4,5,7,8],body:=(q [x 2 (.i 0)] [] (.seq (q [m v0,w 4 (.ln l0),x 5 (.i 0)] [] (.blk 0 K.fc)) (q [w 2 (.mv (.i (-1)))] [] .ret))),res:=[(2,none)]}
def a7:Fn:= { av:=2,vars:=[0,1,4,5,6,7],body:= .fail,res:=[]}
def cW:Fn:= { av:=2,vars:=[0,1,4,5,6],body:=(q [x 2 (.i 0)] [] (q [m v0,u (.ca N.cmp_isNaN_int 0 [] [.l 0]),x 3 l0] [] (q [m v1,u (.ca N.cmp_isNaN_int 0 [] [.l 0]),x 4 l0] [] (.seq (.ite [m v3] [] 0 (.seq (.ite [m v4] [] 0 (q [x 2 (.i 0)] [] .ret) .skip) (q [w 2 (.mv (.i (-1)))] [] .ret)) .skip) (.seq (.ite [m v4] [] 0 (q [x 2 (.i 1)] [] .ret) .skip) (.seq (.ite [m v0,m v1,u (.bin .lss l1 l0)] [] 0 (q [w 2 (.mv (.i (-1)))] [] .ret) .skip) (.seq (.ite [m v0,m v1,u (.bin .gtr l1 l0)] [] 0 (q [x 2 (.i 1)] [] .ret) .skip) (q [x 2 (.i 0)] [] .ret)))))))),res:=[(2,none)]}
def bF:C:= (.its [u (.bin .lss v5 v4)] [] 0 .skip (.exit 0) (.seq (.blk 1 (q [m v5,x 3 l0] [] (.ite [m v1,m v0,m v3,a 2 l1 l0,h 2 l0,u (.cw l4 0 [] [.l 0])] [] 0 (q [m v3,x 2 l0] [] .ret) .skip))) (.reg [u (.bin .add v5 (.i 1)),x 5 l0] [])))
def du:C:= .loop true [2,3] K.bF
def aB:Fn:= { av:=2,vars:=[0,1,4,5,7,8],body:=(q [x 2 (.i 0)] [] (.seq (q [m v0,w 4 (.ln l0),x 5 (.i 0)] [] (.blk 0 K.du)) (q [w 2 (.mv (.i (-1)))] [] .ret))),res:=[(2,none)]}
def cmp_isNaN_int:Fn:= { av:=1,vars:=[0,2],body:=(q [x 1 (.b false)] [] (q [m v0,m v0,u (.bin .neq l1 l0),x 1 l0] [] .ret)),res:=[(1,none)]}
end Go.Ev.K
namespace Go.Ev
class km [Lib]:Prop where
 mU:Lib.fs N.bI=some K.bI
 pI:Lib.fs N.dt=some K.dt
 vB:Lib.fs N.fL=some K.fL
 nF:Lib.fs N.bO=some K.bO
 cH:Lib.fs N.az=some K.az
 nG:Lib.fs N.cr=some K.cr
 kn:Lib.fs N.bD=some K.bD
 tc:Lib.fs N.gj=some K.gj
 jP:Lib.fs N.bB=some K.bB
 bV:Lib.fs N.ak=some K.ak
 rB:Lib.fs N.ed=some K.ed
 cX:Lib.fs N.aF=some K.aF
 m9:Lib.fs N.a7=some K.a7
 pJ:Lib.fs N.cW=some K.cW
 b6:Lib.fs N.aB=some K.aB
 rC:Lib.fs N.cmp_isNaN_int=some K.cmp_isNaN_int
namespace K
variable [Lib] [km]
theorem mU:Lib.fs N.bI=some K.bI:=km.mU
theorem pI:Lib.fs N.dt=some K.dt:=km.pI
theorem vB:Lib.fs N.fL=some K.fL:=km.vB
theorem nF:Lib.fs N.bO=some K.bO:=km.nF
theorem cH:Lib.fs N.az=some K.az:=km.cH
theorem nG:Lib.fs N.cr=some K.cr:=km.nG
theorem kn:Lib.fs N.bD=some K.bD:=km.kn
theorem tc:Lib.fs N.gj=some K.gj:=km.tc
theorem jP:Lib.fs N.bB=some K.bB:=km.jP
theorem bV:Lib.fs N.ak=some K.ak:=km.bV
theorem rB:Lib.fs N.ed=some K.ed:=km.rB
theorem cX:Lib.fs N.aF=some K.aF:=km.cX
theorem m9:Lib.fs N.a7=some K.a7:=km.m9
theorem pJ:Lib.fs N.cW=some K.cW:=km.pJ
theorem b6:Lib.fs N.aB=some K.aB:=km.b6
theorem rC:Lib.fs N.cmp_isNaN_int=some K.cmp_isNaN_int:=km.rC
end K
end Go.Ev
namespace Go.Ev
open Go
variable [Lib] [dM] [dh] [o6] [ns] [rP] [lz] [mM] [qI] [od] [kA] [km]
theorem FV(l:List Int):aW 0 N.bD [.t (tL l)] []=some (.fn N.a7 [.bp 0 0],[.box [.t (tL l)]]):=by
 refine aA K.kn rfl ?_
 simp(disch:=omega)only[go_sem,K.bD,↓reduceIte,reduceAdd,reduceSub]
theorem RL(l:List Int):B2 (tL l)=some l:=by
 unfold B2
 simp only
 induction l with
 | nil=>rfl
 | cons x l ih=>
   simp only[List.map_cons,cO]at ih ⊢
   rw[ih];rfl
theorem FW(l:List Int)(hl:l.length≤1000000):aW 0 N.cr [.fn N.a7 [.bp 0 0]] [.box [.t (tL l)]]=some (.t (tL (jx l)),[.box [.t (tL l)]]):=by
 refine TX K.nG (by decide) ?_
 show B3 [2,N.a7] _ _=_
 simp only[B3,if_true,List.getElem?_cons_zero,yC,aLq,RL]
 rw[if_pos (by unfold lim;omega)]
theorem Qu(a:Int):aW 0 N.cmp_isNaN_int [I a] []=some (B false,[]):=by
 refine aA K.rC rfl ?_
 simp(disch:=omega)only[go_sem,K.cmp_isNaN_int,↓reduceIte,decide_true,Bool.not_true,reduceAdd,reduceSub]
def UN(a b:Int):Int:=if a<b then -1 else if b<a then 1 else 0
theorem ZI(a b:Int):aW 0 N.cW [I a,I b] []=some (I (UN a b),[]):=by
 refine aA K.pJ rfl ?_
 have h1:=Qu a
 have h2:=Qu b
 unfold UN
 by_cases c1:a<b
 · simp(disch:=omega)only[go_sem,K.cW,↓reduceIte,h1,h2,c1,aLt,reduceAdd,reduceSub]
 · by_cases c2:b<a
   · simp(disch:=omega)only[go_sem,K.cW,↓reduceIte,h1,h2,c1,c2,aLt,reduceAdd,reduceSub]
   · simp(disch:=omega)only[go_sem,K.cW,↓reduceIte,h1,h2,c1,c2,aLt,reduceAdd,reduceSub]
def Qv(a b:List Int)(j:Nat):Bool:=decide (b.length≤j)||decide (nth a j≠nth b j)
def afX(a b:List Int):Int:=match (List.range a.length).find? (Qv a b)with
 | some j=>if b.length≤j then 1 else UN (nth a j) (nth b j)
 | none=>if a.length<b.length then -1 else 0
theorem RM(a b:List Int)(ha:a.length≤1000000)(hb:b.length≤1000000):aW 0 N.bB [.t (tL a),.t (tL b)] []=some (I (afX a b),[]):=by
 refine aA K.jP rfl ?_
 have loop:∀z2 z3 z4 z5 z6:D,exS aW K.m8 ⟨[.t (tL a),.t (tL b),z2,z3,z4,z5,z6,.t (tL a),I a.length,I 0],[]⟩=
  some (match (List.range a.length).find? (Qv a b)with
   | some j=>(.ret,⟨[.t (tL a),.t (tL b),I (if b.length≤j then 1 else UN (nth a j) (nth b j)),I j,I (nth a j),if b.length≤j then .und else I (nth b j),if b.length≤j then .und else I (UN (nth a j) (nth b j)),.t (tL a),I a.length,I j],[]⟩)
   | none=>(.exit 0,⟨[.t (tL a),.t (tL b),.und,.und,.und,.und,.und,.t (tL a),I a.length,I a.length],[]⟩)):=by
  intro z2 z3 z4 z5 z6
  refine cL (fun j=>⟨[.t (tL a),.t (tL b),.und,.und,.und,.und,.und,.t (tL a),I a.length,I j],[]⟩) a.length (Qv a b) _ _ rfl ?_ ?_ ?_ (by simp)
  · intro j hj hp
    simp only[Qv,Bool.or_eq_false_iff,decide_eq_false_iff_not,Decidable.not_not]at hp
    obtain⟨h1,h2⟩:=hp
    have c:=ZI (nth a j) (nth b j)
    rw[h2]at c
    have e:UN (nth b j) (nth b j)=0:=by unfold UN;rw[if_neg (by omega),if_neg (by omega)]
    rw[e]at c
    simp(disch:=omega)only[go_sem,K.dI,↓reduceIte,h2,c,reduceAdd,reduceSub]
  · intro j hj hp
    refine⟨?_,by simp⟩
    by_cases h1:b.length≤j
    · rw[if_pos h1,if_pos h1,if_pos h1]
      simp(disch:=omega)only[go_sem,K.dI,↓reduceIte,reduceAdd,reduceSub]
    · rw[if_neg h1,if_neg h1,if_neg h1]
      have h2:nth a j≠nth b j:=by simpa [Qv,h1]using hp
      have c:=ZI (nth a j) (nth b j)
      have e:UN (nth a j) (nth b j)≠0:=by
       unfold UN;split
       · omega
       · split<;>omega
      generalize UN (nth a j) (nth b j)=v at*
      simp(disch:=omega)only[go_sem,K.dI,↓reduceIte,c,e,reduceAdd,reduceSub]
  · simp(disch:=omega)only[go_sem,K.dI,↓reduceIte,reduceAdd,reduceSub]
 unfold afX
 cases hf:(List.range a.length).find? (Qv a b)with
 | some j=>
   simp only[hf]at loop
   simp(disch:=omega)only[go_sem,K.bB,↓reduceIte,loop,reduceAdd,reduceSub]
 | none=>
   simp only[hf]at loop
   by_cases h:a.length<b.length
   · simp(disch:=omega)only[go_sem,K.bB,↓reduceIte,loop,h,reduceAdd,reduceSub]
   · simp(disch:=omega)only[go_sem,K.bB,↓reduceIte,loop,h,reduceAdd,reduceSub]
end Go.Ev
namespace Go.Ev
open Go
variable [Lib] [dM] [dh]
theorem IY{n:Nat}{p:Nat→Bool}{x:Int}:x∈nS n p↔∃k:Nat,x=k∧k<n∧p k=true:=by
 unfold nS
 simp only[List.mem_map,List.mem_filter,aLu]
 constructor
 · rintro ⟨k,⟨h1,h2⟩,rfl⟩;exact⟨k,rfl,h1,h2⟩
 · rintro ⟨k,rfl,h1,h2⟩;exact⟨k,⟨h1,h2⟩,rfl⟩
theorem Hm{n:Nat}{p:Nat→Bool}{k:Nat}:(k:Int)∈nS n p↔k<n∧p k=true:=by
 rw[IY]
 constructor
 · rintro ⟨j,h,h1,h2⟩
   obtain rfl:k=j:=by omega
   exact⟨h1,h2⟩
 · rintro ⟨h1,h2⟩;exact⟨k,rfl,h1,h2⟩
theorem RN(s:Wh)(t:Int)(k:Nat)(hk:k<s.frm.length):aW 0 N.dz [I k,.bp 0 0,.bp 1 0] [.box [I s.time,.t (tL s.frm)],.box [I t]]=some (B (decide (nth s.frm k≤t)),[.box [I s.time,.t (tL s.frm)],.box [I t]]):=by
 refine aA K.qm rfl ?_
 simp(disch:=omega)only[go_sem,K.dz,↓reduceIte,reduceAdd,reduceSub]
theorem FX(s:Wh)(t:Int)(hl:s.frm.length≤1000000):aW 0 N.fx [.t s.e,I t] []=some (.t (tL (sW s t)),[]):=by
 refine aA K.sG rfl ?_
 have wh:=JH s.frm.length hl N.dz [[tI s.time,tL s.frm],[tI t]] (fun k=>decide (nth s.frm k≤t)) (fun k hk=>RN s t k hk)
 have wh:aW 0 N.dj [I s.frm.length,.fn N.dz [.bp 0 0,.bp 1 0]] [.box [I s.time,.t (tL s.frm)],.box [I t]]=some (.t (tL (sW s t)),[.box [I s.time,.t (tL s.frm)],.box [I t]]):=wh
 obtain⟨time,frm⟩:=s
 simp only at hl wh
 generalize sW ⟨time,frm⟩ t=r at*
 simp(disch:=omega)only[go_sem,K.fx,↓reduceIte,wh,reduceAdd,reduceSub]
theorem J6(l:List World)(hl:l.length≤4294967296)(f:Nat)(bs:List (List T))(p:World→Bool)(h:∀x,x∈l→aW 0 f (.t x.e::fB bs.length) (aT bs)=some (B (p x),aT bs)):
 aW 0 N.aN [.t (.sl (l.map World.e)),.fn f (fB bs.length)] (aT bs)=
 some (I (match (List.range l.length).find? (fun j=>p (nth l j))with | some j=>(j:Int) | none=> -1),aT bs):=by
 refine aA K.dF rfl ?_
 have loop:∀a b:D,exS aW K.fV ⟨[.t (.sl (l.map World.e)),.fn f (fB bs.length),a,b,I l.length,I 0],aT bs⟩=
  some (match (List.range l.length).find? (fun j=>p (nth l j))with
   | some j=>(.ret,⟨[.t (.sl (l.map World.e)),.fn f (fB bs.length),I j,I j,I l.length,I j],aT bs⟩)
   | none=>(.exit 0,⟨[.t (.sl (l.map World.e)),.fn f (fB bs.length),.und,.und,I l.length,I l.length],aT bs⟩)):=by
  intro a b
  refine cL (fun j=>⟨[.t (.sl (l.map World.e)),.fn f (fB bs.length),.und,.und,I l.length,I j],aT bs⟩) l.length (fun j=>p (nth l j)) _ _ rfl ?_ ?_ ?_ (by simp)
  · intro j hj hp
    have hc:=nQ (h _ (ai hj)) rfl
    simp(disch:=omega)only[go_sem,K.b9,↓reduceIte,hc,hp]
  · intro j hj hp
    have hc:=nQ (h _ (ai hj)) rfl
    simp(disch:=omega)only[go_sem,K.b9,↓reduceIte,hp,hc]
    simp
  · simp(disch:=omega)only[go_sem,K.b9,↓reduceIte]
 simp(disch:=omega)only[go_sem,K.aN,↓reduceIte,loop]
 cases hf:(List.range l.length).find? (fun j=>p (nth l j))with
 | some j=>simp(disch:=omega)only[go_sem,↓reduceIte]
 | none=>simp(disch:=omega)only[go_sem,↓reduceIte]
theorem EF{α:Type} [Dat α]{l:List α}{p:α→Bool}:((List.range l.length).find? fun j=>p (nth l j)).isSome=l.any p:=by
 rw[List.isSome_find?,Bool.eq_iff_iff,List.any_eq_true,List.any_eq_true]
 constructor
 · rintro ⟨j,hj,h⟩
   exact⟨_,ai (aLu.1 hj),h⟩
 · rintro ⟨x,hx,h⟩
   obtain⟨j,hj⟩:=aLf.1 hx
   exact⟨j,aLu.2 (aLe.1 hj).1,by rw[bY hj];exact h⟩
theorem UO{α:Type} [Dat α](l:List α)(p:α→Bool):l.any p=(List.range l.length).any fun i=>p (nth l i):=by
 rw[← EF,List.isSome_find?]
theorem DQ(l:List World)(hl:l.length≤4294967296)(f:Nat)(bs:List (List T))(p:World→Bool)(h:∀x,x∈l→aW 0 f (.t x.e::fB bs.length) (aT bs)=some (B (p x),aT bs)):
 aW 0 N.ax [.t (.sl (l.map World.e)),.fn f (fB bs.length)] (aT bs)=some (B (l.any p),aT bs):=by
 refine aA K.c8 rfl ?_
 have h:=J6 l hl f bs p h
 have hc:=ye aW bs f _ 0 (.sl (l.map World.e)) h rfl
 have e:=EF (l:=l) (p:=p)
 cases hf:(List.range l.length).find? (fun j=>p (nth l j))with
 | some j=>rw[hf]at e hc;simp(disch:=omega)only[go_sem,K.ax,↓reduceIte,←e,hc]
 | none=>rw[hf]at e hc;simp(disch:=omega)only[go_sem,K.ax,↓reduceIte,←e,hc,Option.isSome_none]
def ac2(cY t:Int)(p:Nat)(x:World):Bool:=decide (0≤cY∧cY<x.whr.length)&&(decide (p<(nth x.whr cY.toNat).frm.length)&&decide (nth (nth x.whr cY.toNat).frm p≤t))
theorem UP(x:World)(hx:x.sz)(cY t:Int)(p:Nat)(hp:p≤1000000):
 aW 0 N.bN [.t x.e,.bp 0 0,.bp 1 0,.bp 2 0] [.box [I cY],.box [I p],.box [I t]]=some (B (ac2 cY t p x),[.box [I cY],.box [I p],.box [I t]]):=by
 refine aA K.mR rfl ?_
 have li:=wo cY 0 (x.whr.length-1)
 obtain⟨h1,h2,h3⟩:=hx
 unfold ac2
 by_cases c:0≤cY∧cY<x.whr.length
 · obtain⟨c1,c2⟩:=c
   have e1:(x.whr.map Wh.e)[cY.toNat]?=some (nth x.whr cY.toNat).e:=iE _ (by omega)
   have h4:=h3 _ (ai (l:=x.whr) (j:=cY.toNat) (by omega))
   have li':decide (0≤cY∧cY≤(x.whr.length:Int)-1)=true:=by simp;omega
   rw[li']at li
   generalize nth x.whr cY.toNat=w at*
   obtain⟨tags,whr⟩:=x
   obtain⟨time,frm⟩:=w
   simp only at*
   by_cases c3:p<frm.length
   · simp(disch:=omega)only[go_sem,K.bN,↓reduceIte,reduceAdd,reduceSub,li,e1,c1,c2,c3,and_self]
   · simp(disch:=omega)only[go_sem,K.bN,↓reduceIte,reduceAdd,reduceSub,li,e1,c1,c2,c3,and_self]
 · have li':decide (0≤cY∧cY≤(x.whr.length:Int)-1)=false:=by simp;omega
   rw[li']at li
   obtain⟨tags,whr⟩:=x
   simp only at*
   simp(disch:=omega)only[go_sem,K.bN,↓reduceIte,reduceAdd,reduceSub,li,c]
theorem XT(b:Bel)(hb:b.sz)(cY t:Int)(p:Nat)(hp:p≤1000000):
 aW 0 N.cD [I p,.bp 0 0,.bp 1 0,.bp 2 0] [.box [.t (.sl (b.aK.map World.e))],.box [I cY],.box [I t]]=some (B (b.aK.any (ac2 cY t p)),[.box [.t (.sl (b.aK.map World.e))],.box [I cY],.box [I t]]):=by
 refine aA K.oM rfl ?_
 have cf:=DQ b.aK (by have:=hb.1;omega) N.bN [[tI cY],[tI p],[tI t]] (ac2 cY t p) (fun x hx=>UP x (hb.2 x hx) cY t p hp)
 have cf:aW 0 N.ax [.t (.sl (b.aK.map World.e)),.fn N.bN [.bp 0 0,.bp 1 0,.bp 2 0]] [.box [I cY],.box [I p],.box [I t]]=some (B (b.aK.any (ac2 cY t p)),[.box [I cY],.box [I p],.box [I t]]):=cf
 simp(disch:=omega)only[go_sem,K.cD,↓reduceIte,reduceAdd,reduceSub,cf]
theorem UQ(b:Bel)(cY t:Int)(p:Nat):b.aK.any (ac2 cY t p)=alK b cY t p:=by
 unfold alK
 rw[UO]
 congr 1
 funext i
 unfold ac2
 congr 1
 rw[Bool.eq_iff_iff]
 simp only[aLr,decide_eq_true_eq,sW,Hm]
theorem OQ(b:Bel)(hb:b.sz)(cY t:Int):aW 0 N.dA [.t b.e,I cY,I t] []=some (.t (tL (FD b cY t)),[]):=by
 refine aA K.qn rfl ?_
 have wh:=JH 64 (by omega) N.cD [[.sl (b.aK.map World.e)],[tI cY],[tI t]] (alK b cY t) (fun p hp=>by rw[← UQ];exact XT b hb cY t p (by omega))
 have wh:aW 0 N.dj [I 64,.fn N.cD [.bp 0 0,.bp 1 0,.bp 2 0]] [.box [.t (.sl (b.aK.map World.e))],.box [I cY],.box [I t]]=some (.t (tL (FD b cY t)),[.box [.t (.sl (b.aK.map World.e))],.box [I cY],.box [I t]]):=wh
 obtain⟨ws⟩:=b
 simp only at wh
 generalize FD ⟨ws⟩ cY t=r at*
 simp(disch:=omega)only[go_sem,K.dA,↓reduceIte,wh,reduceAdd,reduceSub]
def qx(a b:List Int):Bool:=a.any fun p=>decide (p∈b)
theorem UR(b:List Int)(hb:b.length≤4294967296)(x:Int):aW 0 N.cj [I x,.bp 0 0] [.box [.t (tL b)]]=some (B (decide (x∈b)),[.box [.t (tL b)]]):=by
 refine aA K.nC rfl ?_
 have c:=Fu b x hb
 simp(disch:=omega)only[go_sem,K.cj,↓reduceIte,c,reduceAdd,reduceSub]
theorem J7(a b:List Int)(ha:a.length≤4294967296)(hb:b.length≤4294967296):aW 0 N.cT [.t (tL a),.t (tL b)] []=some (B (qx a b),[]):=by
 refine aA K.pz rfl ?_
 have cf:=q6 a ha N.cj [[tL b]] (fun p=>decide (p∈b)) (fun x _=>UR b hb x)
 have cf:aW 0 N.aq [.t (tL a),.fn N.cj [.bp 0 0]] [.box [.t (tL b)]]=some (B (qx a b),[.box [.t (tL b)]]):=cf
 simp(disch:=omega)only[go_sem,K.cT,↓reduceIte,cf,reduceAdd,reduceSub]
theorem US(b:Bel)(cY t:Int):(FD b cY t).length≤64:=Ck _ _
def RO(x:Mch)(b:Bel)(t:Int):List Int:=if b.aK.length=0 then []else nS (nth b.aK 0).whr.length fun i=>qx (FD b i t) x.pl
theorem XU(x:Mch)(hx:x.pl.length≤1000000)(b:Bel)(hb:b.sz)(t:Int)(i:Nat):
 aW 0 N.cC [I i,.bp 0 0,.bp 1 0,.bp 2 0] [.box [.t (.sl (b.aK.map World.e))],.box [I t],.box [I x.kind,I x.num,.t (tL x.pl)]]=some (B (qx (FD b i t) x.pl),[.box [.t (.sl (b.aK.map World.e))],.box [I t],.box [I x.kind,I x.num,.t (tL x.pl)]]):=by
 refine aA K.oL rfl ?_
 have ps:=OQ b hb i t
 have pl:=US b i t
 have me:=J7 (FD b i t) x.pl (by omega) (by omega)
 obtain⟨ws⟩:=b
 obtain⟨kind,num,l⟩:=x
 simp only at*
 generalize FD ⟨ws⟩ i t=r at*
 simp(disch:=omega)only[go_sem,K.cC,↓reduceIte,ps,me,reduceAdd,reduceSub]
theorem UT(x:Mch)(hx:x.pl.length≤1000000)(b:Bel)(hb:b.sz)(t:Int):aW 0 N.dy [.t x.e,.t b.e,I t] []=some (.t (tL (RO x b t)),[]):=by
 refine aA K.qk rfl ?_
 unfold RO
 by_cases c:b.aK.length=0
 · obtain⟨ws⟩:=b
   obtain⟨kind,num,l⟩:=x
   simp only at*
   simp(disch:=omega)only[go_sem,K.dy,↓reduceIte,c,reduceAdd,reduceSub]
   try rfl
 · have h0:=(hb.2 _ (ai (l:=b.aK) (j:=0) (by omega))).2.1
   have wh:=JH (nth b.aK 0).whr.length h0 N.cC [[.sl (b.aK.map World.e)],[tI t],[tI x.kind,tI x.num,tL x.pl]] (fun i=>qx (FD b i t) x.pl) (fun i _=>XU x hx b hb t i)
   have wh:aW 0 N.dj [I (nth b.aK 0).whr.length,.fn N.cC [.bp 0 0,.bp 1 0,.bp 2 0]] [.box [.t (.sl (b.aK.map World.e))],.box [I t],.box [I x.kind,I x.num,.t (tL x.pl)]]=
    some (.t (tL (nS (nth b.aK 0).whr.length fun i=>qx (FD b i t) x.pl)),[.box [.t (.sl (b.aK.map World.e))],.box [I t],.box [I x.kind,I x.num,.t (tL x.pl)]]):=wh
   have e1:(b.aK.map World.e)[0]?=some (nth b.aK 0).e:=iE _ (by omega)
   rw[if_neg c]
   generalize nS (nth b.aK 0).whr.length (fun i=>qx (FD b i t) x.pl)=r at*
   generalize nth b.aK 0=w at*
   obtain⟨tags,whr⟩:=w
   obtain⟨ws⟩:=b
   obtain⟨kind,num,l⟩:=x
   simp only at*
   simp(disch:=omega)only[go_sem,K.dy,↓reduceIte,c,e1,wh,reduceAdd,reduceSub]
def xw(x:Mch)(s:Wh)(b:Bel)(t ahead:Int):Int:=
 if qx (sW s t) x.pl=true then 2 else if qx (sW s (t+ahead)) x.pl=true then 1
 else if x.kind=2∧(sW s (t+ahead)).length≠0∧(RO x b (t+ahead)).length≠0 then 3 else 0
theorem FY(s:Wh)(t:Int):(sW s t).length≤s.frm.length:=Ck _ _
theorem ZJ(m:bh)(x:Mch)(hx:x.pl.length≤1000000)(s:Wh)(hs:s.frm.length≤1000000)(b:Bel)(hb:b.sz)(t ahead:Int)(h1: -9223372036854775808≤t+ahead)(h2:t+ahead≤9223372036854775807):
 aW 0 N.bJ [.t m.e,.t x.e,.t s.e,.t b.e,I t,I ahead] []=some (I (xw x s b t ahead),[]):=by
 refine aA K.ny rfl ?_
 have f1:=FX s t hs
 have f2:=FX s (t+ahead) hs
 have l1:=FY s t
 have l2:=FY s (t+ahead)
 have m1:=J7 (sW s t) x.pl (by omega) (by omega)
 have m2:=J7 (sW s (t+ahead)) x.pl (by omega) (by omega)
 have nr:=UT x hx b hb (t+ahead)
 unfold xw
 generalize RO x b (t+ahead)=nf at*
 generalize sW s (t+ahead)=p2 at*
 generalize sW s t=p1 at*
 obtain⟨ws⟩:=b
 obtain⟨kind,num,l⟩:=x
 obtain⟨time,frm⟩:=s
 simp only at*
 cases c1:qx p1 l with
 | true=>
   rw[c1]at m1
   simp(disch:=omega)only[go_sem,K.bJ,↓reduceIte,f1,f2,m1,reduceAdd,reduceSub]
 | false=>
   rw[c1]at m1
   cases c2:qx p2 l with
   | true=>
     rw[c2]at m2
     simp(disch:=omega)only[go_sem,K.bJ,↓reduceIte,f1,f2,m1,m2,reduceAdd,reduceSub,aLt]
   | false=>
     rw[c2]at m2
     by_cases c3:kind=2
     · subst c3
       by_cases c4:p2.length=0
       · simp(disch:=omega)only[go_sem,K.bJ,↓reduceIte,f1,f2,m1,m2,c4,reduceAdd,reduceSub,aLt,ne_eq,not_true_eq_false,false_and,and_false]
       · by_cases c5:nf.length=0
         · simp(disch:=omega)only[go_sem,K.bJ,↓reduceIte,f1,f2,m1,m2,c4,c5,nr,reduceAdd,reduceSub,aLt,ne_eq,not_true_eq_false,false_and,and_false]
         · simp(disch:=omega)only[go_sem,K.bJ,↓reduceIte,f1,f2,m1,m2,c4,c5,nr,reduceAdd,reduceSub,aLt,ne_eq,not_true_eq_false,not_false_eq_true,and_self]
     · simp(disch:=omega)only[go_sem,K.bJ,↓reduceIte,f1,f2,m1,m2,c3,reduceAdd,reduceSub,aLt,ne_eq,not_true_eq_false,false_and,and_false]
def Qw(x:Mch)(s:Wh)(b:Bel)(t ahead:Int):List Int:=if xw x s b t ahead=2∨xw x s b t ahead=1 then RO x b (t+ahead)else []
theorem XV(m:bh)(x:Mch)(hx:x.pl.length≤1000000)(s:Wh)(hs:s.frm.length≤1000000)(b:Bel)(hb:b.sz)(t ahead:Int)(h1: -9223372036854775808≤t+ahead)(h2:t+ahead≤9223372036854775807):
 aW 0 N.cR [.t m.e,.t x.e,.t s.e,.t b.e,I t,I ahead] []=some (.t (tL (Qw x s b t ahead)),[]):=by
 refine aA K.pw rfl ?_
 have cm:=ZJ m x hx s hs b hb t ahead h1 h2
 have nr:=UT x hx b hb (t+ahead)
 unfold Qw
 generalize RO x b (t+ahead)=nf at*
 generalize xw x s b t ahead=c at*
 obtain⟨ws⟩:=b
 obtain⟨kind,num,l⟩:=x
 obtain⟨time,frm⟩:=s
 simp only at*
 by_cases c2:c=2
 · subst c2
   simp(disch:=omega)only[go_sem,K.cR,↓reduceIte,cm,nr,reduceAdd,reduceSub,true_or]
 · by_cases c1:c=1
   · subst c1
     simp(disch:=omega)only[go_sem,K.cR,↓reduceIte,cm,nr,reduceAdd,reduceSub,or_true]
   · simp(disch:=omega)only[go_sem,K.cR,↓reduceIte,cm,c1,c2,reduceAdd,reduceSub,or_self]
     try rfl
end Go.Ev
namespace Go.Ev
open Go
variable [Lib] [dM] [dh] [o6] [ns] [rP] [lz] [mM] [qI] [od] [kA] [km]
theorem J8(l:List Mch)(hl:l.length≤4294967296)(f:Nat)(bs:List (List T))(p:Mch→Bool)(h:∀x,x∈l→aW 0 f (.t x.e::fB bs.length) (aT bs)=some (B (p x),aT bs)):
 aW 0 N.aF [.t (.sl (l.map Mch.e)),.fn f (fB bs.length)] (aT bs)=
 some (I (match (List.range l.length).find? (fun j=>p (nth l j))with | some j=>(j:Int) | none=> -1),aT bs):=by
 refine aA K.cX rfl ?_
 have loop:∀a b:D,exS aW K.fc ⟨[.t (.sl (l.map Mch.e)),.fn f (fB bs.length),a,b,I l.length,I 0],aT bs⟩=
  some (match (List.range l.length).find? (fun j=>p (nth l j))with
   | some j=>(.ret,⟨[.t (.sl (l.map Mch.e)),.fn f (fB bs.length),I j,I j,I l.length,I j],aT bs⟩)
   | none=>(.exit 0,⟨[.t (.sl (l.map Mch.e)),.fn f (fB bs.length),.und,.und,I l.length,I l.length],aT bs⟩)):=by
  intro a b
  refine cL (fun j=>⟨[.t (.sl (l.map Mch.e)),.fn f (fB bs.length),.und,.und,I l.length,I j],aT bs⟩) l.length (fun j=>p (nth l j)) _ _ rfl ?_ ?_ ?_ (by simp)
  · intro j hj hp
    have hc:=nQ (h _ (ai hj)) rfl
    simp(disch:=omega)only[go_sem,K.bR,↓reduceIte,hc,hp]
  · intro j hj hp
    have hc:=nQ (h _ (ai hj)) rfl
    simp(disch:=omega)only[go_sem,K.bR,↓reduceIte,hp,hc]
    simp
  · simp(disch:=omega)only[go_sem,K.bR,↓reduceIte]
 simp(disch:=omega)only[go_sem,K.aF,↓reduceIte,loop]
 cases hf:(List.range l.length).find? (fun j=>p (nth l j))with
 | some j=>simp(disch:=omega)only[go_sem,↓reduceIte]
 | none=>simp(disch:=omega)only[go_sem,↓reduceIte]
theorem DR(l:List Mch)(hl:l.length≤4294967296)(f:Nat)(bs:List (List T))(p:Mch→Bool)(h:∀x,x∈l→aW 0 f (.t x.e::fB bs.length) (aT bs)=some (B (p x),aT bs)):
 aW 0 N.az [.t (.sl (l.map Mch.e)),.fn f (fB bs.length)] (aT bs)=some (B (l.any p),aT bs):=by
 refine aA K.cH rfl ?_
 have h:=J8 l hl f bs p h
 have hc:=ye aW bs f _ 0 (.sl (l.map Mch.e)) h rfl
 have e:=EF (l:=l) (p:=p)
 cases hf:(List.range l.length).find? (fun j=>p (nth l j))with
 | some j=>rw[hf]at e hc;simp(disch:=omega)only[go_sem,K.az,↓reduceIte,←e,hc]
 | none=>rw[hf]at e hc;simp(disch:=omega)only[go_sem,K.az,↓reduceIte,←e,hc,Option.isSome_none]
theorem J9(l:List Wh)(hl:l.length≤4294967296)(f:Nat)(bs:List (List T))(p:Wh→Bool)(h:∀x,x∈l→aW 0 f (.t x.e::fB bs.length) (aT bs)=some (B (p x),aT bs)):
 aW 0 N.aB [.t (.sl (l.map Wh.e)),.fn f (fB bs.length)] (aT bs)=
 some (I (match (List.range l.length).find? (fun j=>p (nth l j))with | some j=>(j:Int) | none=> -1),aT bs):=by
 refine aA K.b6 rfl ?_
 have loop:∀a b:D,exS aW K.du ⟨[.t (.sl (l.map Wh.e)),.fn f (fB bs.length),a,b,I l.length,I 0],aT bs⟩=
  some (match (List.range l.length).find? (fun j=>p (nth l j))with
   | some j=>(.ret,⟨[.t (.sl (l.map Wh.e)),.fn f (fB bs.length),I j,I j,I l.length,I j],aT bs⟩)
   | none=>(.exit 0,⟨[.t (.sl (l.map Wh.e)),.fn f (fB bs.length),.und,.und,I l.length,I l.length],aT bs⟩)):=by
  intro a b
  refine cL (fun j=>⟨[.t (.sl (l.map Wh.e)),.fn f (fB bs.length),.und,.und,I l.length,I j],aT bs⟩) l.length (fun j=>p (nth l j)) _ _ rfl ?_ ?_ ?_ (by simp)
  · intro j hj hp
    have hc:=nQ (h _ (ai hj)) rfl
    simp(disch:=omega)only[go_sem,K.bF,↓reduceIte,hc,hp]
  · intro j hj hp
    have hc:=nQ (h _ (ai hj)) rfl
    simp(disch:=omega)only[go_sem,K.bF,↓reduceIte,hp,hc]
    simp
  · simp(disch:=omega)only[go_sem,K.bF,↓reduceIte]
 simp(disch:=omega)only[go_sem,K.aB,↓reduceIte,loop]
 cases hf:(List.range l.length).find? (fun j=>p (nth l j))with
 | some j=>simp(disch:=omega)only[go_sem,↓reduceIte]
 | none=>simp(disch:=omega)only[go_sem,↓reduceIte]
theorem DT(l:List Wh)(hl:l.length≤4294967296)(f:Nat)(bs:List (List T))(p:Wh→Bool)(h:∀x,x∈l→aW 0 f (.t x.e::fB bs.length) (aT bs)=some (B (p x),aT bs)):
 aW 0 N.ak [.t (.sl (l.map Wh.e)),.fn f (fB bs.length)] (aT bs)=some (B (l.any p),aT bs):=by
 refine aA K.bV rfl ?_
 have h:=J9 l hl f bs p h
 have hc:=ye aW bs f _ 0 (.sl (l.map Wh.e)) h rfl
 have e:=EF (l:=l) (p:=p)
 cases hf:(List.range l.length).find? (fun j=>p (nth l j))with
 | some j=>rw[hf]at e hc;simp(disch:=omega)only[go_sem,K.ak,↓reduceIte,←e,hc]
 | none=>rw[hf]at e hc;simp(disch:=omega)only[go_sem,K.ak,↓reduceIte,←e,hc,Option.isSome_none]
theorem FZ{l:List Int}:jj l=true↔l.Nodup∧∀x∈l,1≤x∧x≤65535:=by
 constructor
 · intro h
   refine⟨mE h,fun x hx=>?_⟩
   simp only[jj,aLx,aLu,rn,decide_eq_true_eq]at h
   obtain⟨j,hj⟩:=aLf.1 hx
   have:=h j (aLe.1 hj).1
   rw[bY hj]at this
   exact⟨this.1,this.2.1⟩
 · rintro ⟨h1,h2⟩
   simp only[jj,aLx,aLu,rn,decide_eq_true_eq]
   intro j hj
   obtain⟨a,b⟩:=h2 _ (ai hj)
   refine⟨a,b,Decidable.byContradiction fun c=>?_⟩
   obtain⟨d,e⟩:=Co (l:=l.take j) (x:=nth l j) (by omega)
   have z:0≤cN (l.take j) (nth l j):=by omega
   generalize cN (l.take j) (nth l j)=k at*
   rw[List.length_take]at d
   have k1:k.toNat<j:=by omega
   have e1:(l.take j)[k.toNat]?=l[k.toNat]?:=List.getElem?_take_of_lt k1
   have e2:l[k.toNat]?=some l[k.toNat]:=aLc (by omega)
   rw[bY (e1.trans e2),←bY e2]at e
   have n2:=(List.getElem?_inj (by omega:k.toNat<l.length) h1).1 (show l[k.toNat]?=l[j]? by rw[oN (by omega),oN hj,e])
   omega
theorem XW{l:List Int}{lo hi:Int}:Zs l lo hi=true↔l.Pairwise (· < ·)∧∀x∈l,lo≤x∧x≤hi:=by
 have e:Zs l lo hi=true↔∀j,j<l.length→lo≤nth l j∧nth l j≤hi∧(0<j→nth l (j-1)<nth l j):=by
  simp only[Zs,Bool.not_eq_true',List.any_eq_false,aLu,UA,Bool.not_eq_true]
  constructor
  · intro h j hj
    have:=h j hj
    exact Decidable.byContradiction fun c=>this (decide_eq_false c)
  · intro h j hj c
    exact(of_decide_eq_false c) (h j hj)
 rw[e]
 constructor
 · intro h
   refine⟨?_,fun x hx=>?_⟩
   · have key:∀d i,i+d+1<l.length→nth l i<nth l (i+d+1):=by
      intro d
      induction d with
      | zero=>intro i hi;have:=(h (i+0+1) hi).2.2 (by omega);simpa using this
      | succ d ih=>
        intro i hi
        have a:=ih i (by omega)
        have b:=(h (i+(d+1)+1) hi).2.2 (by omega)
        rw[show i+(d+1)+1-1=i+d+1 by omega]at b
        omega
     rw[List.pairwise_iff_getElem]
     intro i j hi hj hij
     have:=key (j-i-1) i (by omega)
     rw[show i+(j-i-1)+1=j by omega,bY (aLc hi),bY (aLc hj)]at this
     exact this
   · obtain⟨j,hj⟩:=aLf.1 hx
     have:=h j (aLe.1 hj).1
     rw[bY hj]at this
     exact⟨this.1,this.2.1⟩
 · rintro ⟨h1,h2⟩ j hj
   refine⟨(h2 _ (ai hj)).1,(h2 _ (ai hj)).2,fun h0=>?_⟩
   have:=(List.pairwise_iff_getElem.1 h1) (j-1) j (by omega) hj (by omega)
   rwa [← bY (aLc (by omega:j-1<l.length)),←bY (aLc hj)]at this
theorem RP(l:List Int):Zs (jx l) 1 65535=jj l:=by
 rw[Bool.eq_iff_iff,XW,FZ]
 have p:=nX l
 have u:=Bl l
 constructor
 · rintro ⟨h1,h2⟩
   refine⟨p.nodup_iff.1 (h1.imp fun h=>by omega),fun x hx=>h2 x (p.mem_iff.2 hx)⟩
 · rintro ⟨h1,h2⟩
   have nd:(jx l).Nodup:=p.nodup_iff.2 h1
   refine⟨?_,fun x hx=>h2 x (p.mem_iff.1 hx)⟩
   have:=List.Pairwise.and u nd
   exact this.imp fun h=>by omega
theorem UU(l:List Int)(hl:l.length≤1000000):aW 0 N.gj [.t (tL l)] []=some (B (jj l),[]):=by
 refine aA K.tc rfl ?_
 have v:=FV l
 have s:=FW l hl
 have r:=Mr (jx l) 1 65535 (by rw[kB];omega)
 rw[RP]at r
 simp(disch:=omega)only[go_sem,K.gj,↓reduceIte,v,s,r,reduceAdd,reduceSub]
end Go.Ev
namespace Go.Ev
open Go
variable [Lib] [dM] [dh] [lz] [mM] [qI] [od]
def smE(into:Option (List Int)):ao:=match into with
 | none=>[]
 | some s=>[.box [.t (tL s)]]
def smD(into:Option (List Int)):D:=match into with
 | none=> .fn N.fq []
 | some _=> .fn N.cV [.bp 5 0]
def smK(into:Option (List Int)):Nat:=match into with
 | none=>5
 | some _=>6
@[go_sem] theorem apQ (H : ao) (len j : Nat) (ts : List T) (h : j < len) : ahL H len 1 false (.t (.agg ts)) j = (ts[j]?).map fun t => (.t t, H) := by
 have h0:len≠0:=by omega
 unfold ahL Ik
 rw[if_neg h0,if_pos h]
 unfold Ao cut
 simp only[D.isAgg,D.cells,T.cells,if_true,Nat.mul_one,List.length_map]
 by_cases hj:j<ts.length
 · rw[if_pos (by omega),aLc hj]
   have e:((ts.map D.t).drop j).take 1=[D.t ts[j]]:=by
    rw[List.drop_eq_getElem_cons (by simpa using hj)];simp
   rw[e];rfl
 · rw[if_neg (by omega),aLm (by omega)];rfl
def UW(into:Option (List Int))(l:List Int)(q:Nat)(x:Int):Bool:=decide (x≤2147483648∧x<nth l q)&&T1 into q
theorem ac3(into:Option (List Int))(hi:∀s,into=some s→s.length≤64)(l:List Int)(hl:l.length≤64)(hb:bnd l)(p:Int)(q:Nat)(hq:q<l.length)(n t:Int)(ch:Bool):
 aW 0 N.bK [I p,I q,I n,.bp 0 0,.bp 1 0,.bp 2 0,.bp 3 0] (.box [I t]:: .box [.ref 4 0 l.length]:: .box [smD into]:: .box [B ch]::mW l::smE into)=
  some (.tup [],if UW into l q (max n t)=true then .box [I t]:: .box [.ref 4 0 l.length]:: .box [smD into]:: .box [B true]::mW (l.set q (max n t))::smE into
   else .box [I t]:: .box [.ref 4 0 l.length]:: .box [smD into]:: .box [B ch]::mW l::smE into):=by
 refine aA K.oW rfl ?_
 have ln:(l.set q (max n t)).length=l.length:=List.length_set ..
 have a:=acS q
 have b:=hb _ (ai hq)
 unfold UW
 cases into with
 | none=>
   simp only[smE,smD,T1,Bool.and_true,decide_eq_true_eq]
   by_cases c1:max n t≤2147483648
   · by_cases c2:max n t<nth l q
     · simp(disch:=omega)only[go_sem,K.bK,↓reduceIte,a,c1,c2,and_self,reduceAdd,reduceSub]
     · simp(disch:=omega)only[go_sem,K.bK,↓reduceIte,c1,c2,and_false,reduceAdd,reduceSub]
   · simp(disch:=omega)only[go_sem,K.bK,↓reduceIte,c1,false_and,reduceAdd,reduceSub]
 | some s=>
   have a2:=XQ q s (by have:=hi s rfl;omega)
   simp only[smE,smD,T1]
   by_cases c1:max n t≤2147483648
   · by_cases c2:max n t<nth l q
     · by_cases c3:(q:Int)∈s
       · simp only[c3,decide_true]at a2
         simp(disch:=omega)only[go_sem,K.bK,↓reduceIte,a2,c1,c2,c3,and_self,decide_true,Bool.and_true,reduceAdd,reduceSub]
       · simp only[c3,decide_false]at a2
         simp(disch:=omega)only[go_sem,K.bK,↓reduceIte,a2,c1,c2,c3,and_self,decide_false,Bool.and_false,reduceAdd,reduceSub]
     · simp(disch:=omega)only[go_sem,K.bK,↓reduceIte,c1,c2,and_false,decide_false,Bool.false_and,reduceAdd,reduceSub]
   · simp(disch:=omega)only[go_sem,K.bK,↓reduceIte,c1,false_and,decide_false,Bool.false_and,reduceAdd,reduceSub]
theorem XX{m:bh}(h:m.ok)(t:Int)(into:Option (List Int)){k:Nat}(hk:k<m.roads.length)(back:Bool)(l:List Int):
 gG m t into k back l=if 0≤jV m k back 6 9 12∧nth l ((nth m.roads k).src back).toNat<1099511627776∧UW into l ((nth m.roads k).dst back).toNat (max (nth l ((nth m.roads k).src back).toNat+jV m k back 6 9 12) t)=true
  then(l.set ((nth m.roads k).dst back).toNat (max (nth l ((nth m.roads k).src back).toNat+jV m k back 6 9 12) t),true)else(l,false):=by
 have r2:=Road.jr (h.rs _ (ai hk)) back
 unfold gG UW q7 qt
 have e:(((nth m.roads k).dst back).toNat:Int)=(nth m.roads k).dst back:=by omega
 rw[e]
 generalize (nth m.roads k).dst back=d at*
 generalize ((nth m.roads k).src back).toNat=s at*
 generalize jV m k back 6 9 12=v at*
 rw[Int.max_comm t]
 generalize max (nth l s+v) t=x at*
 cases T1 into d with
 | false=>simp
 | true=>
   simp only[↓reduceIte,Bool.and_true,aLr,decide_eq_true_eq]
   by_cases c:((0≤v∧nth l s<1099511627776)∧x≤2147483648)∧x<nth l d.toNat
   · obtain⟨⟨⟨c1,c2⟩,c3⟩,c4⟩:=c
     simp[c1,c2,c3,c4]
   · have c':¬(0≤v∧nth l s<1099511627776∧x≤2147483648∧x<nth l d.toNat):=fun h=>c ⟨⟨⟨h.1,h.2.1⟩,h.2.2.1⟩,h.2.2.2⟩
     rw[if_neg c,if_neg c']
     simp only[Prod.mk.injEq,true_and]
     have:(decide (0≤v)&&decide (nth l s<1099511627776)&&decide (x≤2147483648)&&decide (x<nth l d.toNat))=false:=by
      rw[Bool.eq_false_iff];intro h;simp only[aLr,decide_eq_true_eq]at h;exact c h
     exact this
abbrev UX:D:= .fn N.bK [.bp 1 0,.bp 2 0,.bp 3 0,.bp 4 0]
abbrev F3(into:Option (List Int))(t:Int)(s:List Int×Bool):ao:=mW s.1:: .box [I t]:: .box [.ref 0 0 s.1.length]:: .box [smD into]:: .box [B s.2]::smE into
abbrev Cz(x:Road):List D:=[I x.frm,I x.to,I x.len,I x.area,B x.walk,B x.closed,I x.restL,I x.restH,I x.liftL,I x.liftH]
theorem IZ{m:bh}(h:m.ok)(t:Int)(ht:0≤t)(ht2:t≤1000000000000)(into:Option (List Int))(hi:∀s,into=some s→s.length≤64)(l:List Int)(hl:l.length=m.ae.length)(hb:bnd l)(ch:Bool){k:Nat}(hk:k<m.roads.length)(back:Bool):
 gF true [0,6,7,8,9] (F3 into t (l,ch)++[Obj.box (af m),Obj.box (Cz (nth m.roads k))]).length (exS aW K.fK ⟨[.und,.ref 0 0 l.length,UX,.bp (smK into) 0,I k,.bp (smK into+1) 0,.und,.und,.und,.und,.t (.sl (m.roads.map Road.e)),I m.roads.length,I k,.t (.agg [.bool false,.bool true]),I (if back then 1 else 0:Nat)],F3 into t (l,ch)++[.box (af m),.box (Cz (nth m.roads k))]⟩)=
  some ⟨[.und,.ref 0 0 l.length,UX,.bp (smK into) 0,I k,.bp (smK into+1) 0,.und,.und,.und,.und,.t (.sl (m.roads.map Road.e)),I m.roads.length,I k,.t (.agg [.bool false,.bool true]),I ((if back then 1 else 0:Nat)+1)],F3 into t ((gG m t into k back l).1,ch||(gG m t into k back l).2)++[.box (af m),.box (Cz (nth m.roads k))]⟩:=by
 have np:=h.np
 have nr:=h.nr
 have ok:=h.rs _ (ai hk)
 have r1:=Road.oy ok back
 have r2:=Road.jr ok back
 have wt:=XP h k hk back
 have wl:=JI h k hk back
 have b1:=hb _ (ai (l:=l) (j:=((nth m.roads k).src back).toNat) (by omega))
 have lo:=ac3 into hi l (by omega) hb ((nth m.roads k).src back) ((nth m.roads k).dst back).toNat (by omega) (nth l ((nth m.roads k).src back).toNat+jV m k back 6 9 12) t ch
 have e:(((nth m.roads k).dst back).toNat:Int)=(nth m.roads k).dst back:=by omega
 rw[e]at lo
 rw[XX h t into hk back l]
 have ls:∀x,(l.set ((nth m.roads k).dst back).toNat x).length=l.length:=fun x=>List.length_set ..
 generalize jV m k back 6 9 12=v at*
 generalize hx:nth m.roads k=x at*
 clear hx ok
 obtain⟨frm,to,len,area,walk,closed,rl,rh,ll,lh⟩:=x
 obtain⟨ae,roads⟩:=m
 simp only at hl np nr hk
 have h01:(1:Int)=0+1:=rfl
 by_cases c1:0≤v
 · by_cases c2:nth l ((Road.mk frm to len area walk closed rl rh ll lh).src back).toNat<1099511627776
   · cases c3:UW into l ((Road.mk frm to len area walk closed rl rh ll lh).dst back).toNat (max (nth l ((Road.mk frm to len area walk closed rl rh ll lh).src back).toNat+v) t)<;>
     cases back<;>simp only[Road.src,Road.dst,aLt,↓reduceIte]at* <;>simp only[c1,c2,c3,and_true,true_and,and_self,and_false,aLt,↓reduceIte]at lo ⊢ <;>
     cases into<;>simp only[smE,smD,smK,af,Cz,F3,List.cons_append,List.nil_append]at* <;>
     simp(disch:=omega)only[go_sem,K.fK,↓reduceIte,wt,lo,c1,c2,ls,Bool.or_true,Bool.or_false,reduceAdd,reduceSub]
   · cases back<;>simp only[Road.src,Road.dst,aLt,↓reduceIte]at* <;>simp only[c1,c2,false_and,and_false,↓reduceIte]<;>
     cases into<;>simp only[smE,smD,smK,af,Cz,F3,List.cons_append,List.nil_append]at* <;>
     simp(disch:=omega)only[go_sem,K.fK,↓reduceIte,wt,c1,c2,Bool.or_false,reduceAdd,reduceSub]
 · cases back<;>simp only[Road.src,Road.dst,aLt,↓reduceIte]at* <;>simp only[c1,false_and,↓reduceIte]<;>
   cases into<;>simp only[smE,smD,smK,af,Cz,F3,List.cons_append,List.nil_append]at* <;>
   simp(disch:=omega)only[go_sem,K.fK,↓reduceIte,wt,c1,Bool.or_false,reduceAdd,reduceSub]
theorem XY{m:bh}(h:m.ok)(t:Int)(ht:0≤t)(ht2:t≤1000000000000)(into:Option (List Int))(hi:∀s,into=some s→s.length≤64)(l:List Int)(hl:l.length=m.ae.length)(hb:bnd l)(ch:Bool){k:Nat}(hk:k<m.roads.length):
 gF true [0,4,5,6,7,8,9,13,14] (F3 into t (l,ch)++[Obj.box (af m)]).length (exS aW K.kj ⟨[.und,.ref 0 0 l.length,UX,.bp (smK into) 0,.und,.und,.und,.und,.und,.und,.t (.sl (m.roads.map Road.e)),I m.roads.length,I k,.und,.und],F3 into t (l,ch)++[.box (af m)]⟩)=
  some ⟨[.und,.ref 0 0 (zM m t into k (l,ch)).1.length,UX,.bp (smK into) 0,.und,.und,.und,.und,.und,.und,.t (.sl (m.roads.map Road.e)),I m.roads.length,I (k+1),.und,.und],F3 into t (zM m t into k (l,ch))++[.box (af m)]⟩:=by
 have nr:=h.nr
 have g:(m.roads.map Road.e)[k]?=some (nth m.roads k).e:=iE _ hk
 have h1:=IZ h t ht ht2 into hi l hl hb ch hk false
 have l1:(gG m t into k false l).1.length=l.length:=tN ..
 have l2:(gG m t into k true (gG m t into k false l).1).1.length=l.length:=by rw[tN,l1]
 have h2:=IZ h t ht ht2 into hi (gG m t into k false l).1 (by omega) (xe h hl hb hk false) (ch||(gG m t into k false l).2) hk true
 have st:zM m t into k (l,ch)=((gG m t into k true (gG m t into k false l).1).1,ch||(gG m t into k false l).2||(gG m t into k true (gG m t into k false l).1).2):=rfl
 rw[st]
 simp only[l1,l2,aLt,↓reduceIte]at h1 h2 ⊢
 have inner:∀z0 z6 z7 z8 z9:D,exS aW K.si ⟨[z0,.ref 0 0 l.length,UX,.bp (smK into) 0,I k,.bp (smK into+1) 0,z6,z7,z8,z9,.t (.sl (m.roads.map Road.e)),I m.roads.length,I k,.t (.agg [.bool false,.bool true]),I 0],F3 into t (l,ch)++[.box (af m),.box (Cz (nth m.roads k))]⟩=
  some (.exit 2,⟨[.und,.ref 0 0 l.length,UX,.bp (smK into) 0,I k,.bp (smK into+1) 0,.und,.und,.und,.und,.t (.sl (m.roads.map Road.e)),I m.roads.length,I k,.t (.agg [.bool false,.bool true]),I 2],
   F3 into t ((gG m t into k true (gG m t into k false l).1).1,ch||(gG m t into k false l).2||(gG m t into k true (gG m t into k false l).1).2)++[.box (af m),.box (Cz (nth m.roads k))]⟩):=by
  intro z0 z6 z7 z8 z9
  refine dm (fun j=>⟨[.und,.ref 0 0 l.length,UX,.bp (smK into) 0,I k,.bp (smK into+1) 0,.und,.und,.und,.und,.t (.sl (m.roads.map Road.e)),I m.roads.length,I k,.t (.agg [.bool false,.bool true]),I j],
   F3 into t (match j with | 0=>(l,ch) | 1=>((gG m t into k false l).1,ch||(gG m t into k false l).2) | _=>((gG m t into k true (gG m t into k false l).1).1,ch||(gG m t into k false l).2||(gG m t into k true (gG m t into k false l).1).2))++[.box (af m),.box (Cz (nth m.roads k))]⟩) 2 rfl ?_ ?_ (by simp)
  · intro j hj
    have hj2:j=0∨j=1:=by omega
    rcases hj2 with rfl | rfl
    · exact h1
    · exact h2
  · clear h1 h2
    cases into<;>simp only[smE,smD,smK,af,Cz,F3,List.cons_append,List.nil_append]<;>
    simp(disch:=omega)only[go_sem,K.fK,↓reduceIte,reduceAdd,reduceSub]
 clear h1 h2 st
 generalize gG m t into k true (gG m t into k false l).1=b2 at*
 generalize gG m t into k false l=b1 at*
 generalize hx:nth m.roads k=x at*
 clear hx
 obtain⟨frm,to,len,area,walk,closed,rl,rh,ll,lh⟩:=x
 obtain⟨ae,roads⟩:=m
 simp only at nr hk
 cases into<;>simp only[smE,smD,smK,af,Cz,F3,List.cons_append,List.nil_append]at* <;>
 simp(disch:=omega)only[go_sem,K.kj,↓reduceIte,g,inner,l2,reduceAdd,reduceSub]
theorem OR{m:bh}(h:m.ok)(t:Int)(ht:0≤t)(ht2:t≤1000000000000)(into:Option (List Int))(hi:∀s,into=some s→s.length≤64)(l:List Int)(hl:l.length=m.ae.length)(hb:bnd l)(ch:Bool):
 aW 0 N.dW [.t m.e,.ref 0 0 l.length,UX] (F3 into t (l,ch))=some (.tup [],F3 into t ((eh m t into l).1,ch||(eh m t into l).2)):=by
 refine aA K.pG rfl ?_
 have nr:=h.nr
 have ls:=fun k=>eA m t into l k
 have loop:∀z0 z4 z5 z6 z7 z8 z9 z13 z14:D,exS aW K.sj ⟨[z0,.ref 0 0 l.length,UX,.bp (smK into) 0,z4,z5,z6,z7,z8,z9,.t (.sl (m.roads.map Road.e)),I m.roads.length,I 0,z13,z14],F3 into t (l,ch)++[.box (af m)]⟩=
  some (.exit 0,⟨[.und,.ref 0 0 l.length,UX,.bp (smK into) 0,.und,.und,.und,.und,.und,.und,.t (.sl (m.roads.map Road.e)),I m.roads.length,I m.roads.length,.und,.und],F3 into t ((eh m t into l).1,ch||(eh m t into l).2)++[.box (af m)]⟩):=by
  intro z0 z4 z5 z6 z7 z8 z9 z13 z14
  refine dm (fun j=>⟨[.und,.ref 0 0 l.length,UX,.bp (smK into) 0,.und,.und,.und,.und,.und,.und,.t (.sl (m.roads.map Road.e)),I m.roads.length,I j,.und,.und],F3 into t ((gw m t into l j).1,ch||(gw m t into l j).2)++[.box (af m)]⟩) m.roads.length ?_ ?_ ?_ (by simp)
  · simp only[gw,Bool.or_false];rfl
  · intro j hj
    have r:=XY h t ht ht2 into hi (gw m t into l j).1 (by rw[ls,hl]) (kN h hl hb j (by omega)) (ch||(gw m t into l j).2) hj
    have e:zM m t into j ((gw m t into l j).1,ch||(gw m t into l j).2)=((gw m t into l (j+1)).1,ch||(gw m t into l (j+1)).2):=by
     simp only[gw,zM,Bool.or_assoc]
    rw[e]at r
    simp only[ls]at r
    exact r
  · clear ls
    cases into<;>simp only[smE,smD,smK,af,Cz,F3,List.cons_append,List.nil_append]<;>
    simp(disch:=omega)only[go_sem,K.kj,↓reduceIte,eh,reduceAdd,reduceSub]
 have l2:(eh m t into l).1.length=l.length:=by unfold eh;rw[ls]
 clear ls
 generalize eh m t into l=r at*
 obtain⟨r1,r2⟩:=r
 obtain⟨ae,roads⟩:=m
 simp only at nr hl l2
 cases into<;>simp only[smE,smD,smK,af,Cz,F3,List.cons_append,List.nil_append]at* <;>
 simp(disch:=omega)only[go_sem,K.dW,↓reduceIte,loop,l2,reduceAdd,reduceSub]
section
variable (a0 a1 a2 a3 a4 a5 x y : Obj) (ds : ao)
theorem ZK:(a0::a1::a2::a3::a4::(ds++[x]))[ds.length+5]?=some x:=by simp
theorem ajd:(a0::a1::a2::a3::a4::(ds++[x])).set (ds.length+5) y=a0::a1::a2::a3::a4::(ds++[y]):=by simp
theorem ZL:(a0::a1::a2::a3::a4::a5::(ds++[x]))[ds.length+6]?=some x:=by simp
theorem aje:(a0::a1::a2::a3::a4::a5::(ds++[x])).set (ds.length+6) y=a0::a1::a2::a3::a4::a5::(ds++[y]):=by simp
theorem ZM(u:Obj):(ds++[u]++[x])[ds.length+1]?=some x:=by simp
theorem ac4(u:Obj):(a0::a1::a2::a3::a4::(ds++[u]++[x])).set (ds.length+1+1+1+1+1+1) y=a0::a1::a2::a3::a4::(ds++[u]++[y]):=by simp
theorem ac5(u:Obj):(a0::a1::a2::a3::a4::a5::(ds++[u]++[x])).set (ds.length+1+1+1+1+1+1+1) y=a0::a1::a2::a3::a4::a5::(ds++[u]++[y]):=by simp
theorem ajf:(ds++[x]).length=ds.length+1:=by simp
end
@[go_sem] theorem al0 (n : Nat) : eqB n n = true := by
 induction n with
 | zero=>rfl
 | succ n ih=>exact ih
abbrev ZN(m:bh)(into:Option (List Int))(t:Int)(l:List Int)(ds:ao)(c:Bool):ao:=match into with
 | none=> .box (af m):: .box [I t]:: .box [.fn N.fq []]::mW l:: .box [.ref 3 0 l.length]::(ds++[.box [B c]])
 | some s=> .box [.t (tL s)]:: .box (af m):: .box [I t]:: .box [.fn N.cV [.bp 0 0]]::mW l:: .box [.ref 4 0 l.length]::(ds++[.box [B c]])
abbrev OS(m:bh)(into:Option (List Int))(t:Int)(l:List Int)(ds:ao)(c:Bool):St:=match into with
 | none=>⟨[.und,.und,.und,.und,.bp 0 0,.bp 1 0,.bp 2 0,.und,.bp 4 0,.bp (ds.length+5) 0,.und],ZN m none t l ds c⟩
 | some s=>⟨[.und,.und,.und,.und,.bp 1 0,.bp 2 0,.bp 3 0,.und,.bp 5 0,.bp (ds.length+6) 0,.und],ZN m (some s) t l ds c⟩
theorem UY{m:bh}(h:m.ok)(t:Int)(ht:0≤t)(ht2:t≤1000000000000)(into:Option (List Int))(hi:∀s,into=some s→s.length≤64)(l:List Int)(hl:l.length=m.ae.length)(hb:bnd l)(ds:ao)(k:Nat):
 gF false [0,1,2,3,7,10] k (exS aW K.dS (OS m into t l ds true))=some (OS m into t (eh m t into l).1 (ds++[.box [B (eh m t into l).2]]) (eh m t into l).2):=by
 have nr:=h.nr
 have ar:=OR h t ht ht2 into hi l hl hb false
 have l2:(eh m t into l).1.length=l.length:=by unfold eh;rw[eA]
 cases into with
 | none=>
   generalize eh m t none l=r at*
   obtain⟨r1,r2⟩:=r
   obtain⟨ae,roads⟩:=m
   simp only[ZN,OS,F3,smE,smD,af,Bool.false_or]at*
   simp(disch:=omega)only[go_sem,K.dS,↓reduceIte,ar,ZK,ajd,ajf,l2,ZM,ac4,reduceAdd,reduceSub]
 | some s=>
   generalize eh m t (some s) l=r at*
   obtain⟨r1,r2⟩:=r
   obtain⟨ae,roads⟩:=m
   simp only[ZN,OS,F3,smE,smD,af,Bool.false_or]at*
   simp(disch:=omega)only[go_sem,K.dS,↓reduceIte,ar,ZL,aje,ajf,l2,ZM,ac5,reduceAdd,reduceSub]
theorem XZ(m:bh)(into:Option (List Int))(t:Int)(l:List Int)(ds:ao):exS aW K.dS (OS m into t l ds false)=some (.exit 0,OS m into t l ds false):=by
 obtain⟨ae,roads⟩:=m
 cases into with
 | none=>
   simp only[ZN,OS,af]
   simp(disch:=omega)only[go_sem,K.dS,↓reduceIte,ZK,reduceAdd,reduceSub]
 | some s=>
   simp only[ZN,OS,af]
   simp(disch:=omega)only[go_sem,K.dS,↓reduceIte,ZL,reduceAdd,reduceSub]
theorem Ka{m:bh}(h:m.ok)(t:Int)(ht:0≤t)(ht2:t≤1000000000000)(into:Option (List Int))(hi:∀s,into=some s→s.length≤64):∀(n:Nat) (l:List Int) (ds:ao),o5 l<n→l.length=m.ae.length→bnd l→
 ∃ds',qQ false [0,1,2,3,7,10] (exS aW K.dS) (OS m into t l ds true)=some (.exit 0,OS m into t (ef (eh m t into) n l) ds' false)
 | 0,l,ds,hn,_,_=>absurd hn (by omega)
 | n+1,l,ds,hn,hl,hb=>by
   have r:=UY h t ht ht2 into hi l hl hb ds (OS m into t l ds true).H.length
   have s:=(tO h (t:=t) (into:=into) hl hb m.roads.length (aLs _)).1
   change (eh m t into l).2=true→o5 (eh m t into l).1<o5 l at s
   unfold ef
   cases hc:(eh m t into l).2 with
   | true=>
     rw[hc]at r
     obtain⟨ds',h2⟩:=Ka h t ht ht2 into hi n (eh m t into l).1 _ (by have:=s hc;omega) (by unfold eh;rw[eA,hl]) (kN h hl hb _ (aLs _))
     exact⟨ds',nO r h2⟩
   | false=>
     rw[hc]at r
     exact⟨_,nO r (fC (XZ m into t _ _) (by simp))⟩
theorem RQ{m:bh}(h:m.ok)(t:Int)(ht:0≤t)(ht2:t≤1000000000000)(l:List Int)(hl:l.length=m.ae.length)(hb:bnd l):
 aW 0 N.cI [.t m.e,.t (tL l),I t,.fn N.fq []] []=some (.t (tL (eB m t none l)),[])∧
 ∀s:List Int,s.length≤64→aW 1 N.cI [.t m.e,.t (tL l),I t,.fn N.cV [.bp 0 0]] [.box [.t (tL s)]]=some (.ref 1 0 l.length,[.box [.t (tL s)],mW (eB m t (some s) l)]):=by
 have np:=h.np
 have c1:=rz l (by omega)
 have ln:∀into,(eB m t into l).length=l.length:=by
  intro into
  have key:∀n l,(ef (eh m t into) n l).length=l.length:=by
   intro n
   induction n with
   | zero=>intro l;rfl
   | succ n ih=>
     intro l
     unfold ef
     split
     · rw[ih];unfold eh;rw[eA]
     · unfold eh;rw[eA]
  exact key _ _
 refine⟨aA K.nu rfl ?_,fun s hs=>aA K.nu rfl ?_⟩
 · obtain⟨ds,lp⟩:=Ka h t ht ht2 none (by simp) (o5 l+1) l [] (Nat.lt_succ_self _) hl hb
   have ln:=ln none
   have lp:∀z0 z1 z2 z3 z7 z10:D,exS aW K.pE ⟨[z0,z1,z2,z3,.bp 0 0,.bp 1 0,.bp 2 0,z7,.bp 4 0,.bp 5 0,z10],[.box (af m),.box [I t],.box [.fn N.fq []],mW l,.box [.ref 3 0 l.length],.box [B true]]⟩=some (.exit 0,OS m none t (eB m t none l) ds false):=fun z0 z1 z2 z3 z7 z10=>lp
   generalize eB m t none l=r at*
   obtain⟨ae,roads⟩:=m
   simp only[ZN,OS,af]at*
   simp(disch:=omega)only[go_sem,K.cI,↓reduceIte,c1,lp,ln,reduceAdd,reduceSub]
 · obtain⟨ds,lp⟩:=Ka h t ht ht2 (some s) (by intro s' h;cases h;exact hs) (o5 l+1) l [] (Nat.lt_succ_self _) hl hb
   have l2:=ln (some s)
   clear ln
   have lp:∀z0 z1 z2 z3 z7 z10:D,exS aW K.pE ⟨[z0,z1,z2,z3,.bp 1 0,.bp 2 0,.bp 3 0,z7,.bp 5 0,.bp 6 0,z10],[.box [.t (tL s)],.box (af m),.box [I t],.box [.fn N.cV [.bp 0 0]],mW l,.box [.ref 4 0 l.length],.box [B true]]⟩=some (.exit 0,OS m (some s) t (eB m t (some s) l) ds false):=fun z0 z1 z2 z3 z7 z10=>lp
   generalize eB m t (some s) l=r at*
   obtain⟨ae,roads⟩:=m
   simp only[ZN,OS,af]at*
   simp(disch:=omega)only[go_sem,K.cI,↓reduceIte,c1,lp,l2,reduceAdd,reduceSub]
end Go.Ev
namespace Go.Ev
open Go
variable [Lib] [dM] [dh] [o6] [ns] [lz] [mM] [qI] [od]
theorem RR(x:Int):aW 0 N.cy [I x] []=some (B (!decide (plT x)),[]):=by
 refine aA K.pH rfl ?_
 have i:=wo x 0 2147483648
 unfold plT inT
 by_cases c:x=1099511627776
 · subst c
   simp(disch:=omega)only[go_sem,K.cy,↓reduceIte,reduceAdd,reduceSub]
 · by_cases c2:0≤x∧x≤2147483648
   · simp only[c2,and_self,decide_true]at i
     simp(disch:=omega)only[go_sem,K.cy,↓reduceIte,i,c,c2,false_or,and_self,decide_true,reduceAdd,reduceSub]
   · simp only[c2,decide_false]at i
     simp(disch:=omega)only[go_sem,K.cy,↓reduceIte,i,c,c2,false_or,decide_false,reduceAdd,reduceSub]
theorem UZ(m:bh)(hm:m.ae.length≤1000000)(w:Wh)(hl:w.frm.length≤1000000):aW 0 N.dH [.t m.e,.t w.e] []=some (B (xf w m.ae.length),[]):=by
 refine aA K.rv rfl ?_
 have i:=wo w.time 0 2147483648
 have cf:aW 0 N.aq [.t (tL w.frm),.fn N.cy []] []=some (B (w.frm.any fun x=> !decide (plT x)),[]):=q6 w.frm (by omega) N.cy [] (fun x=> !decide (plT x)) (fun x _=>RR x)
 have e:xf w m.ae.length=(decide ((w.frm.length:Int)=m.ae.length∧inT w.time)&& !(w.frm.any fun x=> !decide (plT x))):=by
  unfold xf
  rw[OM,Uy w.frm (fun x=> !decide (plT x))]
 rw[e]
 unfold inT
 generalize (w.frm.any fun x=> !decide (plT x))=r at*
 obtain⟨ae,roads⟩:=m
 obtain⟨time,frm⟩:=w
 simp only at*
 clear e
 by_cases c1:(frm.length:Int)=ae.length
 · by_cases c2:0≤time∧time≤2147483648
   · simp only[c2,and_self,decide_true]at i
     cases r<;>simp(disch:=omega)only[go_sem,K.dH,↓reduceIte,i,cf,c1,c2,and_self,decide_true,Bool.true_and,reduceAdd,reduceSub]
   · simp only[c2,decide_false]at i
     simp(disch:=omega)only[go_sem,K.dH,↓reduceIte,i,cf,c1,c2,and_false,decide_false,Bool.false_and,reduceAdd,reduceSub]
 · simp(disch:=omega)only[go_sem,K.dH,↓reduceIte,c1,false_and,decide_false,Bool.false_and,reduceAdd,reduceSub]
theorem U0{m:bh}(h:m.ok)(w:Wh)(hl:w.frm.length≤1000000):aW 0 N.ga [.t m.e,.t w.e] []=some (B (ei m w),[]):=by
 refine aA K.s8 rfl ?_
 have np:=h.np
 have v:=pX h
 have s:=UZ m (by omega) w hl
 unfold ei
 cases hp:xf w m.ae.length with
 | false=>
   rw[hp]at s
   obtain⟨ae,roads⟩:=m
   obtain⟨time,frm⟩:=w
   simp only at*
   simp(disch:=omega)only[go_sem,K.ga,↓reduceIte,v,s,Bool.false_and,reduceAdd,reduceSub]
 | true=>
   rw[hp]at s
   obtain⟨p1,p2,p3⟩:=zN hp
   have hb:bnd w.frm:=fun x hx=>sV (p3 x hx)
   have lo:=(RQ h w.time (by unfold inT at p2;omega) (by unfold inT at p2;omega) w.frm (by omega) hb).1
   have ll:=pA h w.time p2 none (by simp) (l:=w.frm) (by omega) hb
   have eq:=Qs (eB m w.time none w.frm) w.frm (by omega) (by omega)
   generalize eB m w.time none w.frm=c at*
   obtain⟨ae,roads⟩:=m
   obtain⟨time,frm⟩:=w
   simp only at*
   clear hb p3
   simp(disch:=omega)only[go_sem,K.ga,↓reduceIte,v,s,lo,eq,Bool.true_and,reduceAdd,reduceSub]
end Go.Ev
namespace Go.Ev
open Go
variable [Lib] [dM] [dh] [o6] [ns] [rP] [lz] [mM] [qI] [od] [kA] [km]
theorem xx{n j:Nat}{p:Nat→Bool}(h1:j<n)(h2:p j=true)(h3:∀k,k<j→p k=false):(List.range n).find? p=some j:=by
 cases hf:(List.range n).find? p with
 | none=>exact absurd h2 (by simpa using List.find?_eq_none.1 hf j (aLu.2 h1))
 | some k=>
   obtain⟨k1,k2⟩:=Fs hf
   have:k≤j:=by
    rcases Nat.lt_or_ge j k with c | c
    · rw[List.find?_range_eq_some]at hf
      exact absurd h2 (by simpa using hf.2.2 j c)
    · exact c
   rcases Nat.lt_or_ge k j with c | c
   · rw[h3 k c]at k2;cases k2
   · rw[show k=j by omega]
theorem Mu{n:Nat}{p:Nat→Bool}(h:∀k,k<n→p k=false):(List.range n).find? p=none:=List.find?_eq_none.2 fun x hx=>by rw[h x (aLu.1 hx)];simp
theorem U1(a b:List Int):decide (afX a b<0)=xh a b:=by
 unfold afX xh
 cases hf:(List.range (min a.length b.length)).find? (fun j=>decide (nth a j≠nth b j))with
 | some j=>
   rw[List.find?_range_eq_some]at hf
   obtain⟨h2,h1,h3⟩:=hf
   have h1:=aLu.1 h1
   have e:(List.range a.length).find? (Qv a b)=some j:=xx (by omega) (by simp only[Qv,h2,Bool.or_true]) (fun k hk=>by
    have:=h3 k hk
    simp only[Qv,Bool.or_eq_false_iff,decide_eq_false_iff_not]
    exact⟨by omega,by simpa using this⟩)
   have h2:nth a j≠nth b j:=by simpa using h2
   rw[e]
   simp only[if_neg (by omega:¬b.length≤j)]
   rw[decide_eq_decide]
   unfold UN
   split
   · omega
   · split<;>omega
 | none=>
   have h3:∀k,k<min a.length b.length→nth a k=nth b k:=fun k hk=>by
    have:=List.find?_eq_none.1 hf k (aLu.2 hk)
    simpa using this
   by_cases c:a.length≤b.length
   · have e:(List.range a.length).find? (Qv a b)=none:=Mu fun k hk=>by
      simp only[Qv,Bool.or_eq_false_iff,decide_eq_false_iff_not,Decidable.not_not]
      exact⟨by omega,h3 k (by omega)⟩
     rw[e]
     simp only[decide_eq_decide]
     split<;>omega
   · have e:(List.range a.length).find? (Qv a b)=some b.length:=xx (by omega) (by simp[Qv]) (fun k hk=>by
      simp only[Qv,Bool.or_eq_false_iff,decide_eq_false_iff_not,Decidable.not_not]
      exact⟨by omega,h3 k (by omega)⟩)
     rw[e]
     simp only[aLs,if_true,decide_eq_decide]
     omega
def pwB(m:bh)(ws:List World)(first:List Int)(i:Nat):Bool:=
 decide (1≤(nth ws i).tags.length∧(nth ws i).tags.length≤12)&&decide ((nth ws i).whr.length=(nth ws i).tags.length)&&jj (nth ws i).tags&&decide (jx (nth ws i).tags=jx first)&&(decide (i=0)||xh (nth ws (i-1)).tags (nth ws i).tags)&& !((nth ws i).whr.any fun x=> !ei m x)
def X0(m:bh)(b:Bel):Bool:=decide (1≤b.aK.length∧b.aK.length≤24)&&(List.range b.aK.length).all (pwB m b.aK (nth b.aK 0).tags)
theorem Dz{a b:List Int}:jx a=jx b↔a.Perm b:=by
 constructor
 · intro h
   exact(nX a).symm.trans (h▸nX b)
 · intro h
   exact aoF (Bl a) (Bl b) ((nX a).trans (h.trans (nX b).symm))
theorem zd{a b:List Int}(ha:a.Nodup)(hb:b.Nodup)(hl:a.length=b.length)(hs:∀x∈a,x∈b):a.Perm b:=by
 have key:∀y∈b,y∈a:=fun y hy=>Decidable.byContradiction fun hn=>by
  have:=vl ha (l':=b.erase y) (fun x hx=>(List.mem_erase_of_ne (fun e=>hn (by rw[← e];exact hx))).2 (hs x hx))
  rw[List.length_erase_of_mem hy]at this
  have:=List.length_pos_of_mem hy
  omega
 exact(List.perm_ext_iff_of_nodup ha hb).2 fun x=>⟨hs x,key x⟩
theorem X1(m:bh)(b:Bel):X0 m b=yg m b:=by
 obtain⟨ws⟩:=b
 rw[Bool.eq_iff_iff]
 constructor
 · intro h
   simp only[X0,aLr,decide_eq_true_eq,aLx,aLu,pwB,Bool.or_eq_true,Bool.not_eq_true',List.any_eq_false,Bool.not_eq_false']at h
   obtain⟨⟨h1,h2⟩,h⟩:=h
   have h0:=h 0 (by omega)
   simp only[yg,aLr,decide_eq_true_eq,aLx,aLu,tT,Bool.or_eq_true,Sy]
   refine⟨⟨⟨h1,h2⟩,h0.1.1.1.1.1⟩,fun i hi=>?_⟩
   obtain⟨⟨⟨⟨⟨a1,a2⟩,a3⟩,a4⟩,a5⟩,a6⟩:=h i hi
   have pm:=Dz.1 a4
   refine⟨⟨⟨⟨pm.length_eq,by rw[a2,pm.length_eq]⟩,a3⟩,a5⟩,fun k hk=>⟨?_,?_⟩⟩
   · exact pB.2 (pm.mem_iff.1 (ai hk))
   · simpa using a6 _ (ai (l:=(nth ws i).whr) (j:=k) (by omega))
 · intro h
   obtain⟨h1,h2,h3,h4,h5⟩:=m5 h
   simp only at h1 h2 h3 h4 h5
   have p0:=(lI (h5 0 (by omega))).2.2.1
   simp only[X0,aLr,decide_eq_true_eq,aLx,aLu,pwB,Bool.or_eq_true,Bool.not_eq_true',List.any_eq_false,Bool.not_eq_false']
   refine⟨⟨h1,h2⟩,fun i hi=>?_⟩
   obtain⟨w1,w2,w3,w4⟩:=lI (h5 i hi)
   have ls:=h5 i hi
   simp only[tT,aLr,Bool.or_eq_true,decide_eq_true_eq]at ls
   refine⟨⟨⟨⟨⟨by omega,by omega⟩,w3⟩,?_⟩,ls.1.2⟩,fun x hx=>?_⟩
   · refine Dz.2 (zd (mE w3) (mE p0) w1 fun x hx=>?_)
     obtain⟨j,hj⟩:=aLf.1 hx
     have:=(w4 j (aLe.1 hj).1).1
     rwa [bY hj]at this
   · obtain⟨j,hj⟩:=aLf.1 hx
     have:=(w4 j (by rw[w1,←w2];exact(aLe.1 hj).1)).2
     rw[bY hj]at this
     simpa using this
theorem OT{m:bh}(h:m.ok)(x:Wh)(hx:x.frm.length≤1000000):aW 0 N.ed [.t x.e,.bp 0 0] [.box (af m)]=some (B (!ei m x),[.box (af m)]):=by
 refine aA K.rB rfl ?_
 have v:=U0 h x hx
 obtain⟨ae,roads⟩:=m
 obtain⟨time,frm⟩:=x
 simp only at*
 simp(disch:=omega)only[go_sem,K.ed,↓reduceIte,v,reduceAdd,reduceSub]
abbrev swS(m:bh)(ws:List World)(first:List Int)(i:Nat):St:=
 ⟨[.und,.und,.bp 0 0,.bp 1 0,.und,.t (tL (jx first)),.und,.und,.t (.sl (ws.map World.e)),I ws.length,I i],[.box (af m),.box [.t (.sl (ws.map World.e))],.box [.t (tL first)]]⟩
theorem U2{m:bh}(h:m.ok)(ws:List World)(first:List Int)(hf:first.length≤1000000)(hs:∀x∈ws,x.sz)(i:Nat)(hi:i<ws.length)(hl:ws.length≤1000000):
 (pwB m ws first i=true→gF true [0,1,4,6,7] 3 (exS aW K.cz (swS m ws first i))=some (swS m ws first (i+1)))∧
 (pwB m ws first i=false→∃q,exS aW K.cz (swS m ws first i)=some q∧q.1= .ret∧q.2.vs[4]?=some (B false)):=by
 simp only[swS]
 have sz:=hs _ (ai hi)
 have ex:(ws.map World.e)[i]?=some (nth ws i).e:=iE _ hi
 unfold pwB
 have ey:0<i→(ws.map World.e)[i-1]?=some (nth ws (i-1)).e∧(nth ws (i-1)).tags.length≤1000000:=fun h0=>⟨iE _ (by omega),(hs _ (ai (by omega))).1⟩
 generalize nth ws (i-1)=y at*
 generalize nth ws i=x at*
 obtain⟨tags,whr⟩:=x
 obtain⟨ptags,pwhr⟩:=y
 obtain⟨s1,s2,s3⟩:=sz
 simp only at s1 s2 s3 ey ⊢
 have li:=wo tags.length 1 12
 have tg:=UU tags s1
 have va:=FV tags
 have so:=FW tags s1
 have eq:=Qs (jx tags) (jx first) (by rw[kB];omega) (by rw[kB];omega)
 have cf:=DT whr (by omega) N.ed [[.sl (m.ae.map Place.e),.sl (m.roads.map Road.e)]] (fun x=> !ei m x) (fun x hx=>OT h x (s3 x hx))
 have cf:aW 0 N.ak [.t (.sl (whr.map Wh.e)),.fn N.ed [.bp 0 0]] [.box (af m)]=some (B (whr.any fun x=> !ei m x),[.box (af m)]):=cf
 have cp:0<i→aW 0 N.bB [.t (tL ptags),.t (tL tags)] []=some (I (afX ptags tags),[]):=fun h0=>RM ptags tags (ey h0).2 s1
 have cl:=U1 ptags tags
 generalize jx tags=st at*
 generalize jx first=sf at*
 generalize (whr.any fun x=> !ei m x)=an at*
 generalize jj tags=pr at*
 generalize xh ptags tags=le at*
 generalize afX ptags tags=cc at*
 clear hs s3
 by_cases c1:1≤tags.length∧tags.length≤12
 · have li:aW 0 N.aU [I tags.length,I 1,I 12] []=some (B true,[]):=by rw[li,decide_eq_true (by omega)]
   by_cases c2:whr.length=tags.length
   · cases pr with
     | false=>
       refine⟨fun h=>by simp at h,fun _=>?_⟩
       simp(disch:=omega)only[go_sem,K.cz,↓reduceIte,li,tg,ex,c2,reduceAdd,reduceSub]
       refine⟨_,rfl,?_,?_⟩<;>rfl
     | true=>
       by_cases c4:st=sf
       · subst c4
         simp only[decide_true]at eq
         cases i with
         | zero=>
           cases an with
           | true=>
             refine⟨fun h=>by simp at h,fun _=>?_⟩
             simp(disch:=omega)only[go_sem,K.cz,↓reduceIte,li,tg,ex,c2,va,so,eq,cf,reduceAdd,reduceSub]
             refine⟨_,rfl,?_,?_⟩<;>rfl
           | false=>
             refine⟨fun _=>?_,fun h=>by simp[c1,c2]at h⟩
             simp(disch:=omega)only[go_sem,K.cz,↓reduceIte,li,tg,ex,c2,va,so,eq,cf,reduceAdd,reduceSub]
         | succ i=>
           obtain⟨ey, -⟩:=ey (by omega)
           have cp:=cp (by omega)
           simp only[Nat.add_sub_cancel]at ey
           cases le with
           | false=>
             have cl:¬cc<0:=by simpa using cl
             refine⟨fun h=>by simp at h,fun _=>?_⟩
             simp(disch:=omega)only[go_sem,K.cz,↓reduceIte,li,tg,ex,c2,va,so,eq,ey,cp,reduceAdd,reduceSub]
             refine⟨_,rfl,?_,?_⟩<;>rfl
           | true=>
             have cl:cc<0:=by simpa using cl
             cases an with
             | true=>
               refine⟨fun h=>by simp at h,fun _=>?_⟩
               simp(disch:=omega)only[go_sem,K.cz,↓reduceIte,li,tg,ex,c2,va,so,eq,ey,cp,cf,reduceAdd,reduceSub]
               refine⟨_,rfl,?_,?_⟩<;>rfl
             | false=>
               refine⟨fun _=>?_,fun h=>by simp[c1,c2]at h⟩
               simp(disch:=omega)only[go_sem,K.cz,↓reduceIte,li,tg,ex,c2,va,so,eq,ey,cp,cf,reduceAdd,reduceSub]
       · simp only[c4,decide_false]at eq
         refine⟨fun h=>by simp[c4]at h,fun _=>?_⟩
         simp(disch:=omega)only[go_sem,K.cz,↓reduceIte,li,tg,ex,c2,va,so,eq,reduceAdd,reduceSub]
         refine⟨_,rfl,?_,?_⟩<;>rfl
   · refine⟨fun h=>by simp[c2]at h,fun _=>?_⟩
     simp(disch:=omega)only[go_sem,K.cz,↓reduceIte,li,ex,c2,reduceAdd,reduceSub]
     refine⟨_,rfl,?_,?_⟩<;>rfl
 · have li:aW 0 N.aU [I tags.length,I 1,I 12] []=some (B false,[]):=by rw[li,decide_eq_false (by omega)]
   refine⟨fun h=>by simp[c1]at h,fun _=>?_⟩
   simp(disch:=omega)only[go_sem,K.cz,↓reduceIte,li,ex,reduceAdd,reduceSub]
   refine⟨_,rfl,?_,?_⟩<;>rfl
theorem RS{m:bh}(h:m.ok)(b:Bel)(hs:b.sz):aW 0 N.fL [.t m.e,.t b.e] []=some (B (yg m b),[]):=by
 rw[← X1]
 refine aA K.vB rfl ?_
 obtain⟨h1,h2⟩:=hs
 have v:=pX h
 obtain⟨ws⟩:=b
 simp only at h1 h2
 have li:=wo ws.length 1 24
 unfold X0
 simp only
 by_cases c:1≤ws.length∧ws.length≤24
 · have li:aW 0 N.aU [I ws.length,I 1,I 24] []=some (B true,[]):=by rw[li,decide_eq_true (by omega)]
   have e0:(ws.map World.e)[0]?=some (nth ws 0).e:=iE _ (by omega)
   have sz:=(h2 _ (ai (l:=ws) (j:=0) (by omega))).1
   have loop:=fun a b c d e=>A1 (gc:=true) (dead:=[0,1,4,6,7]) (c:=K.cz) (vs:=[a,b,.bp 0 0,.bp 1 0,c,.t (tL (jx (nth ws 0).tags)),d,e,.t (.sl (ws.map World.e)),I ws.length,I 0]) (H:=[.box (af m),.box [.t (.sl (ws.map World.e))],.box [.t (tL (nth ws 0).tags)]])
    (swS m ws (nth ws 0).tags) ws.length (fun j=> !pwB m ws (nth ws 0).tags j) (fun _ q=>q.1= .ret∧q.2.vs[4]?=some (B false))
    (.exit 0,swS m ws (nth ws 0).tags ws.length) rfl
    (fun j hj hp=>(U2 h ws _ sz h2 j hj h1).1 (by simpa using hp))
    (fun j hj hp=>by
     obtain⟨q,q1,q2,q3⟩:=(U2 h ws _ sz h2 j hj h1).2 (by simpa using hp)
     exact⟨q,q1,by rw[q2];simp,q2,q3⟩)
    (by simp(disch:=omega)only[go_sem,K.cz,swS,↓reduceIte,reduceAdd,reduceSub]) (by simp)
   rw[qE]
   have va:=FV (nth ws 0).tags
   have so:=FW (nth ws 0).tags sz
   have loop:=loop (.t m.e) (.t (Bel.e ⟨ws⟩)) (B false) .und .und
   generalize nth ws 0=x at*
   obtain⟨first,whr⟩:=x
   simp only[swS]at*
   generalize jx first=sf at*
   rcases loop with⟨e1,e2⟩ | ⟨j,⟨x,vs,H⟩,e1,e2,e3,e4⟩
   · have e2:exS aW K.s9 _=_:=e2
     simp(disch:=omega)only[go_sem,K.fL,↓reduceIte,v,li,e0,va,so,c,and_self,decide_true,Bool.true_and,e1,e2,Option.isNone,reduceAdd,reduceSub]
   · have e2:exS aW K.s9 _=_:=e2
     simp only at e3 e4
     subst e3
     simp(disch:=omega)only[go_sem,K.fL,↓reduceIte,v,li,e0,va,so,c,and_self,decide_true,Bool.true_and,e1,e2,Option.isNone,reduceAdd,reduceSub]
     simp(disch:=omega)only[go_sem,lE,e4,List.take_zero]
 · have li:aW 0 N.aU [I ws.length,I 1,I 24] []=some (B false,[]):=by rw[li,decide_eq_false (by omega)]
   simp(disch:=omega)only[go_sem,K.fL,↓reduceIte,v,li,c,decide_false,Bool.false_and,reduceAdd,reduceSub]
end Go.Ev
namespace Go.Ev
open Go
variable [Lib] [dM] [dh] [lz] [mM]
abbrev ue:Int:=2147483648
def uf(l:List Int)(n:Int)(p q:Nat):List Int×Bool:=if n<0∨ue<nth l p∨ue<nth l p+n∨nth l q≤nth l p+n then(l,false)else(l.set q (nth l p+n),true)
def ng(m:bh)(fl:List Spn)(k:Nat)(back:Bool)(l:List Int):List Int×Bool:=
 uf l (jN (nth m.roads k) (nth fl k) back) ((nth m.roads k).src back).toNat ((nth m.roads k).dst back).toNat
def F4(m:bh)(fl:List Spn)(k:Nat)(s:List Int×Bool):List Int×Bool:=
 ((ng m fl k true (ng m fl k false s.1).1).1,s.2||(ng m fl k false s.1).2||(ng m fl k true (ng m fl k false s.1).1).2)
def iF(m:bh)(fl:List Spn)(l:List Int):Nat→List Int×Bool
 | 0=>(l,false)
 | k+1=>F4 m fl k (iF m fl l k)
theorem RT(l:List Int)(n:Int)(p q:Nat):(uf l n p q).1.length=l.length:=by unfold uf;split<;>simp
theorem RU{l:List Int}(hb:bnd l){n:Int}{p q:Nat}(hp:p<l.length):bnd (uf l n p q).1:=by
 unfold uf
 split
 · exact hb
 · rename_i c
   intro x hx
   have:=hb _ (ai hp)
   rcases aLk hx with h | h
   · exact hb x h
   · simp only[ue]at c;subst h;omega
theorem RV{l:List Int}(hb:bnd l){n:Int}{p q:Nat}(hp:p<l.length)(hq:q<l.length):
 ((uf l n p q).2=true→o5 (uf l n p q).1<o5 l)∧((uf l n p q).2=false→(uf l n p q).1=l):=by
 unfold uf
 split
 · exact⟨fun h=>by simp at h,fun _=>rfl⟩
 · rename_i c
   refine⟨fun _=>?_,fun h=>by simp at h⟩
   have:=hb _ (ai hp)
   exact EB hq (by omega) (by omega)
theorem ug(m:bh)(fl:List Spn)(k:Nat)(back:Bool)(l:List Int):(ng m fl k back l).1.length=l.length:=RT _ _ _ _
theorem ik(m:bh)(fl:List Spn)(l:List Int):∀k,(iF m fl l k).1.length=l.length
 | 0=>rfl
 | k+1=>by simp only[iF,F4,ug,ik m fl l k]
section
variable {m : bh} (h : m.ok) {fl : List Spn}
include h
theorem CA{l:List Int}(hl:l.length=m.ae.length)(hb:bnd l){k:Nat}(hk:k<m.roads.length)(back:Bool):bnd (ng m fl k back l).1:=by
 have r1:=Road.oy (h.rs _ (ai hk)) back
 exact RU hb (by omega)
theorem CB{l:List Int}(hl:l.length=m.ae.length)(hb:bnd l){k:Nat}(hk:k<m.roads.length)(back:Bool):
 ((ng m fl k back l).2=true→o5 (ng m fl k back l).1<o5 l)∧((ng m fl k back l).2=false→(ng m fl k back l).1=l):=by
 have r1:=Road.oy (h.rs _ (ai hk)) back
 have r2:=Road.jr (h.rs _ (ai hk)) back
 exact RV hb (by omega) (by omega)
theorem zW{l:List Int}(hl:l.length=m.ae.length)(hb:bnd l):∀k,k≤m.roads.length→bnd (iF m fl l k).1
 | 0,_=>hb
 | k+1,hk=>by
   have ih:=zW hl hb k (by omega)
   simp only[iF,F4]
   exact CA h (by rw[ug,ik,hl]) (CA h (by rw[ik,hl]) ih (by omega) _) (by omega) _
theorem zX{l:List Int}(hl:l.length=m.ae.length)(hb:bnd l):∀k,k≤m.roads.length→
 ((iF m fl l k).2=true→o5 (iF m fl l k).1<o5 l)∧((iF m fl l k).2=false→(iF m fl l k).1=l)
 | 0,_=>⟨fun h=>by simp[iF]at h,fun _=>rfl⟩
 | k+1,hk=>by
   obtain⟨i1,i2⟩:=zX hl hb k (by omega)
   have hb1:=zW h (fl:=fl) hl hb k (by omega)
   have hl1:(iF m fl l k).1.length=m.ae.length:=by rw[ik,hl]
   obtain⟨a1,a2⟩:=CB h (fl:=fl) hl1 hb1 (k:=k) (by omega) false
   have hb2:=CA h (fl:=fl) hl1 hb1 (k:=k) (by omega) false
   obtain⟨c1,c2⟩:=CB h (fl:=fl) (by rw[ug,hl1]) hb2 (k:=k) (by omega) true
   simp only[iF,F4]
   generalize iF m fl l k=s at*
   obtain⟨sl,sb⟩:=s
   simp only at*
   generalize ng m fl k false sl=a at*
   obtain⟨al,ab⟩:=a
   simp only at*
   generalize ng m fl k true al=b at*
   obtain⟨bl,bb⟩:=b
   simp only at*
   cases sb<;>cases ab<;>cases bb<;>simp_all<;>omega
end
def xy(m:bh)(fl:List Spn)(l:List Int):List Int×Bool:=iF m fl l m.roads.length
def spF(m:bh)(fl:List Spn)(l:List Int):List Int:=ef (xy m fl) (o5 l+1) l
end Go.Ev
namespace Go.Ev
open Go
theorem sk{α:Type} [Dat α](l:List α)(k:Nat)(hk:k<l.length)(x:α)(j:Nat):nth (l.set k x) j=if j=k then x else nth l j:=by
 unfold nth
 by_cases h:j=k
 · subst h;rw[if_pos rfl];simp[hk]
 · rw[if_neg h]
   have:¬k=j:=fun e=>h e.symm
   simp[List.getElem?_set,this]
theorem ym{α:Type}{f:α→α×Bool}(P:α→Prop)(hP:∀l,P l→P (f l).1):∀n l,P l→P (ef f n l)
 | 0,l,h=>h
 | n+1,l,h=>by
   unfold ef
   split
   · exact ym P hP n _ (hP l h)
   · exact hP l h
theorem yn{α:Type}{f:α→α×Bool}(P:α→Prop)(mes:α→Nat)(hP:∀l,P l→P (f l).1∧((f l).2=true→mes (f l).1<mes l)∧((f l).2=false→(f l).1=l)):∀n l,P l→mes l<n→(f (ef f n l)).2=false∧P (ef f n l)
 | 0,l,_,h=>by omega
 | n+1,l,hp,h=>by
   obtain⟨h1,h2,h3⟩:=hP l hp
   unfold ef
   cases hf:(f l).2 with
   | true=>
     rw[if_pos rfl]
     have:=h2 hf
     exact yn P mes hP n _ h1 (by omega)
   | false=>
     rw[if_neg (by simp),h3 hf]
     exact⟨hf,hp⟩
def clP(m:bh)(fl:List Spn)(y:List Int):Prop:=∀k,k<m.roads.length→∀back,0≤jN (nth m.roads k) (nth fl k) back→
 nth y ((nth m.roads k).src back).toNat+jN (nth m.roads k) (nth fl k) back≤ue→
 nth y ((nth m.roads k).dst back).toNat≤nth y ((nth m.roads k).src back).toNat+jN (nth m.roads k) (nth fl k) back
def clS(m:bh)(fl:List Spn)(y:List Int):Prop:=∀k,k<m.roads.length→∀back,0≤jN (nth m.roads k) (nth fl k) back→
 nth y ((nth m.roads k).dst back).toNat≤nth y ((nth m.roads k).src back).toNat+jN (nth m.roads k) (nth fl k) back
variable [Lib] [dM] [dh] [lz] [mM]
theorem Mv{m:bh}(h:m.ok){fl:List Spn}{y l:List Int}(hy:clP m fl y)(hl:l.length=m.ae.length){k:Nat}(hk:k<m.roads.length)(back:Bool)(hle:∀j,nth y j≤nth l j):∀j,nth y j≤nth (ng m fl k back l).1 j:=by
 have r2:=Road.jr (h.rs _ (ai hk)) back
 intro j
 unfold ng uf
 split
 · exact hle j
 · rename_i c
   have c:=c
   simp only[not_or,Int.not_lt,Int.not_le]at c
   obtain⟨c1,c2,c3,c4⟩:=c
   rw[sk _ _ (by omega)]
   split
   · rename_i e
     have:=hy k hk back (by omega) (by have:=hle ((nth m.roads k).src back).toNat;omega)
     have:=hle ((nth m.roads k).src back).toNat
     rw[e];omega
   · exact hle j
theorem I0{m:bh}(h:m.ok){fl:List Spn}{y l:List Int}(hy:clP m fl y)(hl:l.length=m.ae.length)(hle:∀j,nth y j≤nth l j):∀k,k≤m.roads.length→∀j,nth y j≤nth (iF m fl l k).1 j
 | 0,_=>hle
 | k+1,hk=>by
   have ih:=I0 h hy hl hle k (by omega)
   simp only[iF,F4]
   exact Mv h hy (by rw[ug,ik,hl]) (by omega) true (Mv h hy (by rw[ik,hl]) (by omega) false ih)
theorem ZO{m:bh}(h:m.ok){fl:List Spn}{y l:List Int}(hy:clP m fl y)(hl:l.length=m.ae.length)(hle:∀j,nth y j≤nth l j):∀j,nth y j≤nth (spF m fl l) j:=
 (ym (f:=xy m fl) (fun l=>l.length=m.ae.length∧∀j,nth y j≤nth l j) (fun l hp=>⟨by rw[xy,ik];exact hp.1,I0 h hy hp.1 hp.2 _ (aLs _)⟩) _ l ⟨hl,hle⟩).2
theorem Mw{m:bh}{fl:List Spn}{l:List Int}{k:Nat}(back:Bool)(hb:((nth m.roads k).dst back).toNat<l.length):∀j,nth (ng m fl k back l).1 j≤nth l j:=by
 intro j
 unfold ng uf
 split
 · exact Int.le_refl _
 · rename_i c
   simp only[not_or,Int.not_lt,Int.not_le]at c
   rw[sk _ _ hb]
   split
   · rename_i e;rw[e];omega
   · exact Int.le_refl _
theorem I3{m:bh}(h:m.ok){fl:List Spn}{l:List Int}(hl:l.length=m.ae.length)(hb:bnd l):∀k,k≤m.roads.length→(iF m fl l k).2=false→∀i,i<k→∀back,(ng m fl i back l).2=false
 | 0,_,_,i,hi,_=>by omega
 | k+1,hk,hf,i,hi,back=>by
   have e:=(zX h (fl:=fl) hl hb k (by omega)).2
   have ih:=I3 h (fl:=fl) hl hb k (by omega)
   simp only[iF,F4,Bool.or_eq_false_iff]at hf
   obtain⟨⟨f1,f2⟩,f3⟩:=hf
   have e:=e f1
   rw[e]at f2 f3
   have e2:=(CB h (fl:=fl) hl hb (k:=k) (by omega) false).2 f2
   rw[e2]at f3
   by_cases c:i<k
   · exact ih f1 i c back
   · have:i=k:=by omega
     subst this
     cases back
     · exact f2
     · exact f3
theorem U3{m:bh}(h:m.ok){fl:List Spn}{l:List Int}(hl:l.length=m.ae.length)(hb:bnd l):clP m fl (spF m fl l)∧(spF m fl l).length=m.ae.length∧bnd (spF m fl l):=by
 obtain⟨h1,h2,h3⟩:=yn (f:=xy m fl) (fun l=>l.length=m.ae.length∧bnd l) o5 (fun l ⟨hl,hb⟩=>⟨⟨by rw[xy,ik];exact hl,zW h hl hb _ (aLs _)⟩,zX h hl hb _ (aLs _)⟩) (o5 l+1) l ⟨hl,hb⟩ (Nat.lt_succ_self _)
 refine⟨fun k hk back hn hm=>?_,h2,h3⟩
 have no:=I3 h h2 h3 m.roads.length (aLs _) h1 k hk back
 change (ng m fl k back (spF m fl l)).2=false at no
 unfold ng uf at no
 split at no
 · rename_i c
   have r1:=Road.oy (h.rs _ (ai hk)) back
   have hs:=h3 _ (ai (l:=ef (xy m fl) (o5 l+1) l) (j:=((nth m.roads k).src back).toNat) (by omega))
   change 0≤nth (spF m fl l) _∧nth (spF m fl l) _≤_ at hs
   omega
 · cases no
end Go.Ev
namespace Go.Ev
open Go
variable [Lib] [dM] [dh] [lz] [mM]
def F5(a l:List Int):Prop:=∀j,nth l j≤ue→nth a j≤nth l j
theorem DA{m:bh}(h:m.ok){fl:List Spn}{a l:List Int}(ha:clP m fl a)(hl:l.length=m.ae.length)(hb:bnd l){k:Nat}(hk:k<m.roads.length)(back:Bool)(hle:F5 a l):F5 a (pc m fl k back l).1:=by
 have r2:=Road.jr (h.rs _ (ai hk)) back
 have r1:=Road.oy (h.rs _ (ai hk)) back
 intro j hj
 simp only[pc,qG]at hj ⊢
 split at hj
 · rename_i c
   rw[if_pos c]
   simp only[tQ,decide_eq_true_eq]at c
   rw[sk _ _ (by omega)]at hj ⊢
   split at hj
   · rename_i e
     rw[if_pos e,e]
     have:=hle ((nth m.roads k).src back).toNat (by omega)
     have:=ha k hk back c.1 (by omega)
     omega
   · rename_i e
     rw[if_neg e]
     exact hle j hj
 · rename_i c
   rw[if_neg c]
   exact hle j hj
theorem Bm{m:bh}(h:m.ok){fl:List Spn}{a l:List Int}(ha:clP m fl a)(hl:l.length=m.ae.length)(hb:bnd l)(hle:F5 a l):∀k,k≤m.roads.length→F5 a (eI m fl l k).1
 | 0,_=>hle
 | k+1,hk=>by
   have ih:=Bm h ha hl hb hle k (by omega)
   have hb1:=nD h (fl:=fl) hl hb k (by omega)
   have hl1:(eI m fl l k).1.length=m.ae.length:=by rw[dO,hl]
   simp only[eI,yW]
   exact DA h ha (by rw[tR,hl1]) (yf h (fl:=fl) hl1 hb1 (k:=k) (by omega) false) (by omega) true (DA h ha hl1 hb1 (by omega) false ih)
theorem I4{m:bh}(h:m.ok){fl:List Spn}{l:List Int}(hl:l.length=m.ae.length)(hb:bnd l):∀k,k≤m.roads.length→(eI m fl l k).2=false→∀i,i<k→∀back,(pc m fl i back l).2=false
 | 0,_,_,i,hi,_=>by omega
 | k+1,hk,hf,i,hi,back=>by
   have e:=(q8 h (fl:=fl) hl hb k (by omega)).2
   have ih:=I4 h (fl:=fl) hl hb k (by omega)
   simp only[eI,yW,Bool.or_eq_false_iff]at hf
   obtain⟨⟨f1,f2⟩,f3⟩:=hf
   have e:=e f1
   rw[e]at f2 f3
   have e2:=(Cn h (fl:=fl) hl hb (k:=k) (by omega) false).2 f2
   rw[e2]at f3
   by_cases c:i<k
   · exact ih f1 i c back
   · have:i=k:=by omega
     subst this
     cases back
     · exact f2
     · exact f3
theorem Mx{m:bh}(h:m.ok){fl:List Spn}{a l:List Int}(ha:clP m fl a)(hl:l.length=m.ae.length)(hb:bnd l)(hle:F5 a l):
 clS m fl (ef (fJ m fl) (o5 l+1) l)∧F5 a (ef (fJ m fl) (o5 l+1) l)∧(ef (fJ m fl) (o5 l+1) l).length=m.ae.length∧bnd (ef (fJ m fl) (o5 l+1) l):=by
 obtain⟨h1,⟨h2,h3⟩,h4⟩:=yn (f:=fJ m fl) (fun l=>(l.length=m.ae.length∧bnd l)∧F5 a l) o5 (fun l ⟨⟨hl,hb⟩,hle⟩=>⟨⟨⟨by rw[fJ,dO];exact hl,nD h hl hb _ (aLs _)⟩,Bm h ha hl hb hle _ (aLs _)⟩,q8 h hl hb _ (aLs _)⟩) (o5 l+1) l ⟨⟨hl,hb⟩,hle⟩ (Nat.lt_succ_self _)
 refine⟨fun k hk back hn=>?_,h4,h2,h3⟩
 have no:=I4 h h2 h3 m.roads.length (aLs _) h1 k hk back
 simp only[pc,tQ,decide_eq_false_iff_not]at no
 omega
theorem My(l:List Int):∀k j,k≤l.length→nth (Qg l k) j=if j<k∧ue<nth l j then 1099511627776 else nth l j
 | 0,j,_=>by simp[Qg]
 | k+1,j,hk=>by
   have ih:=My l k
   have e:=ih k (by omega)
   rw[if_neg (by omega)]at e
   have ij:=ih j (by omega)
   simp only[Qg]
   rw[e]
   by_cases c:2147483648<nth l k
   · rw[if_pos c,sk _ _ (by rw[A0];omega),ij]
     by_cases hj:j=k
     · subst hj;rw[if_pos rfl,if_pos ⟨by omega,c⟩]
     · rw[if_neg hj]
       by_cases c2:j<k∧ue<nth l j
       · rw[if_pos c2,if_pos ⟨by omega,c2.2⟩]
       · rw[if_neg c2,if_neg (fun h=>c2 ⟨by omega,h.2⟩)]
   · rw[if_neg c,ij]
     by_cases c2:j<k∧ue<nth l j
     · rw[if_pos c2,if_pos ⟨by omega,c2.2⟩]
     · rw[if_neg c2,if_neg (fun h=>c2 ⟨by
        have:j≠k:=fun e=>by subst e;exact c h.2
        omega,h.2⟩)]
theorem ZP{m:bh}(h:m.ok){fl:List Spn}{l:List Int}(hl:l.length=m.ae.length):∀j,nth (spF m fl l) j≤nth l j:=by
 have steps:∀(l:List Int),l.length=m.ae.length→∀k,k≤m.roads.length→∀j,nth (iF m fl l k).1 j≤nth l j:=by
  intro l hl k
  induction k with
  | zero=>intro _ j;exact Int.le_refl _
  | succ k ih=>
    intro hk j
    have r1:=Road.jr (h.rs _ (ai (l:=m.roads) (j:=k) (by omega))) false
    have r2:=Road.jr (h.rs _ (ai (l:=m.roads) (j:=k) (by omega))) true
    simp only[iF,F4]
    have a:=Mw (m:=m) (fl:=fl) (l:=(ng m fl k false (iF m fl l k).1).1) (k:=k) true (by rw[ug,ik];omega) j
    have b:=Mw (m:=m) (fl:=fl) (l:=(iF m fl l k).1) (k:=k) false (by rw[ik];omega) j
    have c:=ih (by omega) j
    omega
 exact(ym (f:=xy m fl) (fun l'=>l'.length=m.ae.length∧∀j,nth l' j≤nth l j) (fun l' hp=>⟨by rw[xy,ik];exact hp.1,fun j=>Int.le_trans (steps l' hp.1 _ (aLs _) j) (hp.2 j)⟩) _ l ⟨hl,fun j=>Int.le_refl _⟩).2
theorem Qx{α:Type} [Dat α]{a b:List α}(h:a.length=b.length)(e:∀j,j<a.length→nth a j=nth b j):a=b:=by
 apply List.ext_getElem h
 intro j h1 h2
 have:=e j h1
 rwa [bY (aLc h1),bY (aLc h2)]at this
theorem Mz{m:bh}{fl:List Spn}{l:List Int}{k:Nat}(back:Bool)(hb:((nth m.roads k).dst back).toNat<l.length):∀j,nth (pc m fl k back l).1 j≤nth l j:=by
 intro j
 simp only[pc,qG]
 split
 · rename_i c
   simp only[tQ,decide_eq_true_eq]at c
   rw[sk _ _ hb]
   split
   · rename_i e;rw[e];omega
   · exact Int.le_refl _
 · exact Int.le_refl _
theorem I5{m:bh}(h:m.ok){fl:List Spn}{l:List Int}(hl:l.length=m.ae.length):∀k,k≤m.roads.length→∀j,nth (eI m fl l k).1 j≤nth l j
 | 0,_,j=>Int.le_refl _
 | k+1,hk,j=>by
   have r1:=Road.jr (h.rs _ (ai (l:=m.roads) (j:=k) (by omega))) false
   have r2:=Road.jr (h.rs _ (ai (l:=m.roads) (j:=k) (by omega))) true
   simp only[eI,yW]
   have a:=Mz (m:=m) (fl:=fl) (l:=(pc m fl k false (eI m fl l k).1).1) (k:=k) true (by rw[tR,dO];omega) j
   have b:=Mz (m:=m) (fl:=fl) (l:=(eI m fl l k).1) (k:=k) false (by rw[dO];omega) j
   have c:=I5 h (fl:=fl) hl k (by omega) j
   omega
theorem ajg{m:bh}(h:m.ok){fl:List Spn}{l:List Int}(hl:l.length=m.ae.length):∀j,nth (ef (fJ m fl) (o5 l+1) l) j≤nth l j:=
 (ym (f:=fJ m fl) (fun l'=>l'.length=m.ae.length∧∀j,nth l' j≤nth l j) (fun l' hp=>⟨by rw[fJ,dO];exact hp.1,fun j=>Int.le_trans (I5 h hp.1 _ (aLs _) j) (hp.2 j)⟩) _ l ⟨hl,fun j=>Int.le_refl _⟩).2
def ac6(l:List Int):Prop:=∀x∈l,0≤x∧(x≤ue∨x=1099511627776)
theorem ac6.bnd{l:List Int}(h:ac6 l):bnd l:=fun x hx=>by have:=h x hx;simp only[ue]at this;omega
theorem I6{m:bh}{fl:List Spn}{l:List Int}(hl:(ef (fJ m fl) (o5 l+1) l).length=m.ae.length){j:Nat}(hj:j<m.ae.length):
 nth (qu m fl l) j=if ue<nth (ef (fJ m fl) (o5 l+1) l) j then 1099511627776 else nth (ef (fJ m fl) (o5 l+1) l) j:=by
 unfold qu
 rw[My _ _ _ (by omega)]
 by_cases c:ue<nth (ef (fJ m fl) (o5 l+1) l) j
 · rw[if_pos ⟨hj,c⟩,if_pos c]
 · rw[if_neg (fun x=>c x.2),if_neg c]
theorem OU{m:bh}(h:m.ok){fl:List Spn}{l:List Int}(hl:l.length=m.ae.length)(hb:bnd l):(qu m fl l).length=m.ae.length:=by
 unfold qu;rw[A0]
 exact(yn (f:=fJ m fl) (fun l=>l.length=m.ae.length∧Go.Ev.bnd l) o5 (fun l ⟨hl,hb⟩=>⟨⟨by rw[fJ,dO];exact hl,nD h hl hb _ (aLs _)⟩,q8 h hl hb _ (aLs _)⟩) (o5 l+1) l ⟨hl,hb⟩ (Nat.lt_succ_self _)).2.1
theorem RW{m:bh}(h:m.ok){fl:List Spn}{l:List Int}(hl:l.length=m.ae.length)(ht:ac6 l):spF m fl l=qu m fl l:=by
 have hb:=ht.bnd
 obtain⟨a1,a2,a3⟩:=U3 h (fl:=fl) hl hb
 have a4:=ZP h (fl:=fl) hl
 obtain⟨d1,d2,d3,d4⟩:=Mx h (fl:=fl) a1 hl hb (fun j _=>a4 j)
 have d5:=ajg h (fl:=fl) hl
 have cn:=fun{j:Nat} (hj:j<m.ae.length)=>I6 (m:=m) (fl:=fl) (l:=l) d3 hj
 have cl:=OU h (fl:=fl) hl hb
 generalize ef (fJ m fl) (o5 l+1) l=D at*
 apply Qx (by omega)
 intro j hj
 have hj:j<m.ae.length:=by omega
 apply Int.le_antisymm
 · rw[cn hj]
   split
   · have:=a3 _ (ai (l:=spF m fl l) (j:=j) (by omega));omega
   · exact d2 j (by omega)
 · refine ZO h (y:=qu m fl l) ?_ hl ?_ j
   · intro k hk back hn hm
     have r1:=Road.oy (h.rs _ (ai hk)) back
     have r2:=Road.jr (h.rs _ (ai hk)) back
     have x:=d1 k hk back hn
     rw[cn (by omega)]at hm ⊢
     rw[cn (by omega)]
     simp only[ue]at*
     split at hm
     · omega
     · rename_i c
       rw[if_neg c,if_neg (by omega)]
       omega
   · intro i
     by_cases hi:i<m.ae.length
     · rw[cn hi]
       have:=ht _ (ai (l:=l) (j:=i) (by omega))
       have:=d5 i
       split<;>omega
     · have e1:nth (qu m fl l) i=0:=by unfold nth;rw[aLl,aLm (by omega)];rfl
       have e2:nth l i=0:=by unfold nth;rw[aLl,aLm (by omega)];rfl
       rw[e1,e2];exact Int.le_refl _
end Go.Ev
namespace Go.Ev
open Go
variable [Lib] [dM] [dh] [o6] [ns] [lz] [mM]
theorem X2{l:List Int}{n:Int}(h:EA l n=true):∀x∈l,0≤x∧x<n:=by
 intro x hx
 simp only[EA,aLx,aLu,decide_eq_true_eq]at h
 obtain⟨j,hj⟩:=aLf.1 hx
 have:=h j (aLe.1 hj).1
 rw[bY hj]at this
 exact⟨this.1,this.2.1⟩
theorem X3(l:List Int){t:Int}(ht:inT t)(n:Nat):ac6 (wq l t n):=by
 intro x hx
 simp only[wq,List.mem_map]at hx
 obtain⟨p, -,rfl⟩:=hx
 unfold inT at ht
 simp only[ue]
 split<;>omega
theorem RX(x t:Int)(fr:T):aW 0 N.dg [I x,.bp 0 0] [.box [I t,.t fr]]=some (B (!decide (plS t x)),[.box [I t,.t fr]]):=by
 refine aA K.ru rfl ?_
 have i:=wo x t 2147483648
 unfold plS
 by_cases c:x=1099511627776
 · subst c
   simp(disch:=omega)only[go_sem,K.dg,↓reduceIte,reduceAdd,reduceSub]
 · by_cases c2:t≤x∧x≤2147483648
   · simp only[c2,and_self,decide_true]at i
     simp(disch:=omega)only[go_sem,K.dg,↓reduceIte,i,c,c2,false_or,and_self,decide_true,reduceAdd,reduceSub]
   · simp only[c2,decide_false]at i
     simp(disch:=omega)only[go_sem,K.dg,↓reduceIte,i,c,c2,false_or,decide_false,reduceAdd,reduceSub]
theorem U4{m:bh}(h:m.ok)(s:Wh)(hl:s.frm.length≤1000000):aW 0 N.gE [.t m.e,.t s.e] []=some (B (oP m s),[]):=by
 refine aA K.vw rfl ?_
 have v:=pX h
 have np:=h.np
 have i:=wo s.time 0 2147483648
 have cf:=q6 s.frm (by omega) N.dg [[tI s.time,tL s.frm]] (fun x=> !decide (plS s.time x)) (fun x _=>RX x s.time (tL s.frm))
 have e:oP m s=(!(s.frm.any fun x=> !decide (plS s.time x))&&decide (s.frm.length=m.ae.length∧inT s.time)):=by
  unfold oP
  rw[OM,Uy s.frm (fun x=> !decide (plS s.time x))]
 rw[e]
 generalize (s.frm.any fun x=> !decide (plS s.time x))=r at*
 obtain⟨ae,roads⟩:=m
 obtain⟨time,frm⟩:=s
 simp only at*
 unfold inT
 clear e
 have cf:aW 0 N.aq [.t (tL frm),.fn N.dg [.bp 0 0]] [.box [I time,.t (tL frm)]]=some (B r,[.box [I time,.t (tL frm)]]):=cf
 by_cases c1:frm.length=ae.length
 · by_cases c2:0≤time∧time≤2147483648
   · simp only[c2,and_self,decide_true]at i
     cases r<;>simp(disch:=omega)only[go_sem,K.gE,↓reduceIte,v,i,cf,c1,c2,and_self,decide_true,reduceAdd,reduceSub]
   · simp only[c2,decide_false]at i
     cases r<;>simp(disch:=omega)only[go_sem,K.gE,↓reduceIte,v,i,cf,c1,c2,and_false,decide_false,reduceAdd,reduceSub]
 · cases r<;>simp(disch:=omega)only[go_sem,K.gE,↓reduceIte,v,c1,false_and,decide_false,reduceAdd,reduceSub]
def mxL(t:Int)(l:List Int):List Int:=l.map fun x=>max x t
theorem OV(t:Int){l:List Int}{i:Nat}(hi:i<l.length):nth (mxL t l) i=max (nth l i) t:=bY (by rw[mxL,iE _ hi])
theorem Qy(t:Int)(l:List Int):∀j,j≤l.length→∀i,nth (Oo t l j) i=if i<j then max (nth l i) t else nth l i
 | 0,_,i=>by rw[Oo,if_neg (by omega)]
 | j+1,hj,i=>by
   have ih:=Qy t l j (by omega)
   rw[Oo,sk _ _ (by rw[vk];omega),ih j,if_neg (by omega:¬j<j),ih i]
   by_cases e:i=j
   · rw[if_pos e,if_pos (by omega),e]
   · rw[if_neg e]
     by_cases c:i<j
     · rw[if_pos c,if_pos (by omega)]
     · rw[if_neg c,if_neg (by omega)]
theorem X4(t:Int)(l:List Int):Oo t l l.length=mxL t l:=by
 apply Qx (by rw[vk];simp[mxL])
 intro j hj
 rw[vk]at hj
 rw[Qy t l _ (aLs _),if_pos hj,OV t hj]
theorem ajh{t:Int}(ht:inT t){l:List Int}(h:bnd l)(h2:∀x∈l,x≤ue∨x=1099511627776):ac6 (mxL t l):=by
 intro x hx
 simp only[mxL,List.mem_map]at hx
 obtain⟨y,hy,rfl⟩:=hx
 have:=h y hy
 have:=h2 y hy
 unfold inT at ht
 simp only[ue]at*
 omega
theorem I7{m:bh}{fl:List Spn}{frm:List Int}{t:Int}{k:Nat}{back:Bool}{l:List Int}(hi:((nth m.roads k).dst back).toNat<l.length)(P:Int→Prop)(hp:∀x∈l,P x)(ht:P t):∀x∈q9 m fl frm t k back l,P x:=by
 unfold q9
 split
 · intro x hx
   rcases aLk hx with h | h
   · exact hp x h
   · subst h
     have:=hp _ (ai hi)
     rcases Int.le_total (nth l ((nth m.roads k).dst back).toNat) t with c | c
     · rw[Int.min_eq_left c];exact this
     · rw[Int.min_eq_right c];exact ht
 · exact hp
theorem U5{m:bh}(h:m.ok){fl:List Spn}{frm:List Int}{t:Int}(hl:frm.length=m.ae.length)(P:Int→Prop)(hp:∀x∈frm,P x)(ht:P t):∀k,k≤m.roads.length→∀x∈chN m fl frm t k,P x
 | 0,_=>hp
 | k+1,hk=>by
   have r1:=Road.jr (h.rs _ (ai (l:=m.roads) (j:=k) (by omega))) false
   have r2:=Road.jr (h.rs _ (ai (l:=m.roads) (j:=k) (by omega))) true
   have ih:=U5 h (fl:=fl) hl P hp ht k (by omega)
   simp only[chN,FA]
   exact I7 (by rw[qN,mS];omega) P (I7 (by rw[mS];omega) P ih ht) ht
theorem ZQ{m:bh}{l:List Spn}(h1:l.length=m.roads.length)(h2:∀x∈l,x.ok):ky m l=true:=by
 simp only[ky,aLr,decide_eq_true_eq,aLx,aLu]
 exact⟨fun j hj=>h2 _ (ai hj),h1⟩
theorem U6{m:bh}{fl:List Spn}(hf:ky m fl=true){l:List Int}(hl:EA l m.ae.length=true){t:Int}(ht:inT t):
 oQ m fl l t=(⟨t,qu m fl (wq l t m.ae.length)⟩,0):=by
 unfold oQ
 rw[if_neg (by simp[hf]),if_neg (by simp[hl]),if_neg (fun h=>h ht)]
theorem OW{l:List Int}{i:Nat}(h:l.length≤i):nth l i=0:=by unfold nth;rw[aLl,aLm h];rfl
theorem U7(l:List Int)(t:Int){n j:Nat}(hj:j<n):nth (wq l t n) j=if(j:Int)∈l then t else 1099511627776:=bY (by simp[wq,hj])
structure U8(m:bh)(fl:List Spn)(s:Wh):Prop where
 ln:s.frm.length=m.ae.length
 ti:inT s.time
 tm:ac6 s.frm
 lo:∀x∈s.frm,s.time≤x
 cl:clP m fl s.frm
theorem U8.valid{m:bh}{fl:List Spn}{s:Wh}(h:U8 m fl s):oP m s=true:=by
 simp only[oP,aLr,decide_eq_true_eq,aLx,aLu]
 refine⟨fun j hj=>?_,h.ln,h.ti⟩
 have a:=h.tm _ (ai hj)
 have b:=h.lo _ (ai hj)
 unfold plS
 simp only[ue]at a
 omega
theorem EG{n i:Nat}(t:Int)(h:i<n):nth (List.replicate n t) i=t:=bY (by rw[List.getElem?_replicate,if_pos h])
theorem DB{m:bh}(h:m.ok){fl:List Spn}{l:List Int}(hl:l.length=m.ae.length)(ht:ac6 l){t:Int}(hb:∀x∈l,t≤x)(hit:inT t):
 U8 m fl ⟨t,qu m fl l⟩∧∀j,nth (qu m fl l) j≤nth l j:=by
 have e:=RW h (fl:=fl) hl ht
 obtain⟨a1,a2,a3⟩:=U3 h (fl:=fl) hl ht.bnd
 have le:=ZP h (fl:=fl) hl
 have ge:=ZO h (fl:=fl) (y:=List.replicate m.ae.length t) (l:=l) (by
  intro k hk back hn _
  have r1:=Road.oy (h.rs _ (ai hk)) back
  have r2:=Road.jr (h.rs _ (ai hk)) back
  rw[EG t (by omega),EG t (by omega)]
  omega) hl (fun i=>by
   by_cases hi:i<m.ae.length
   · rw[EG t hi];exact hb _ (ai (by omega))
   · rw[OW (by simp;omega),OW (by omega)];omega)
 have cn:=fun{j:Nat} (hj:j<m.ae.length)=>I6 (m:=m) (fl:=fl) (l:=l) (Mx h (fl:=fl) a1 hl ht.bnd (fun j _=>le j)).2.2.1 hj
 rw[e]at a1 a2 a3 le ge
 refine⟨⟨a2,hit,fun x hx=>?_,fun x hx=>?_,a1⟩,le⟩
 · obtain⟨j,hj⟩:=aLf.1 hx
   have jl:=(aLe.1 hj).1
   have:=cn (j:=j) (by rw[← a2];exact jl)
   rw[bY hj]at this
   have:=a3 x hx
   split at* <;>omega
 · obtain⟨j,hj⟩:=aLf.1 hx
   have jl:=(aLe.1 hj).1
   have:=ge j
   rw[bY hj,EG t (by rw[← a2];exact jl)]at this
   exact this
theorem X5(l:List Int){t:Int}(ht:inT t)(n:Nat):∀x∈wq l t n,t≤x:=by
 intro x hx
 simp only[wq,List.mem_map]at hx
 obtain⟨p, -,rfl⟩:=hx
 unfold inT at ht
 split<;>omega
theorem MA{m:bh}(h:m.ok){fl:List Spn}(hf:ky m fl=true){l:List Int}(hl:EA l m.ae.length=true){t:Int}(ht:inT t):
 ∃s:Wh,oQ m fl l t=(s,0)∧U8 m fl s∧s.time=t∧∀p∈l,nth s.frm p.toNat≤t:=by
 have f:=DB h (fl:=fl) (xg l t m.ae.length) (X3 l ht _) (X5 l ht _) ht
 refine⟨_,U6 hf hl ht,f.1,rfl,fun p hp=>?_⟩
 have b:=X2 hl p hp
 have:=f.2 p.toNat
 rw[U7 l t (by omega),if_pos (by rw[show((p.toNat:Nat):Int)=p by omega];exact hp)]at this
 exact this
theorem Bo{m:bh}{fl:List Spn}{frm:List Int}{t:Int}{k:Nat}{back:Bool}{l:List Int}(hi:((nth m.roads k).dst back).toNat<l.length):∀j,nth (q9 m fl frm t k back l) j≤nth l j:=by
 intro j
 unfold q9
 split
 · rw[sk _ _ hi]
   split
   · rename_i e;rw[e];omega
   · exact Int.le_refl _
 · exact Int.le_refl _
theorem ZR{m:bh}(h:m.ok){fl:List Spn}{frm:List Int}{t:Int}(hl:frm.length=m.ae.length):∀k,k≤m.roads.length→∀j,nth (chN m fl frm t k) j≤nth frm j
 | 0,_,j=>Int.le_refl _
 | k+1,hk,j=>by
   have r1:=Road.jr (h.rs _ (ai (l:=m.roads) (j:=k) (by omega))) false
   have r2:=Road.jr (h.rs _ (ai (l:=m.roads) (j:=k) (by omega))) true
   have ih:=ZR h (fl:=fl) (t:=t) hl k (by omega) j
   simp only[chN,FA]
   have a:=Bo (m:=m) (fl:=fl) (frm:=frm) (t:=t) (k:=k) (back:=true) (l:=q9 m fl frm t k false (chN m fl frm t k)) (by rw[qN,mS];omega) j
   have b:=Bo (m:=m) (fl:=fl) (frm:=frm) (t:=t) (k:=k) (back:=false) (l:=chN m fl frm t k) (by rw[mS];omega) j
   omega
theorem Qz{m:bh}(h:m.ok){fl:List Spn}{frm:List Int}{t:Int}(hl:frm.length=m.ae.length){r:Nat}{back:Bool}(h1:nth frm ((nth m.roads r).src back).toNat≤t)(h2:0≤jN (nth m.roads r) (nth fl r) back):
 ∀k,k≤m.roads.length→r<k→nth (chN m fl frm t k) ((nth m.roads r).dst back).toNat≤t
 | 0,_,hr=>by omega
 | k+1,hk,hr=>by
   have r1:=Road.jr (h.rs _ (ai (l:=m.roads) (j:=k) (by omega))) false
   have r2:=Road.jr (h.rs _ (ai (l:=m.roads) (j:=k) (by omega))) true
   have a:=Bo (m:=m) (fl:=fl) (frm:=frm) (t:=t) (k:=k) (back:=true) (l:=q9 m fl frm t k false (chN m fl frm t k)) (by rw[qN,mS];omega) ((nth m.roads r).dst back).toNat
   have b:=Bo (m:=m) (fl:=fl) (frm:=frm) (t:=t) (k:=k) (back:=false) (l:=chN m fl frm t k) (by rw[mS];omega) ((nth m.roads r).dst back).toNat
   simp only[chN,FA]
   by_cases e:r<k
   · have:=Qz h hl h1 h2 k (by omega) e
     omega
   · have:r=k:=by omega
     subst this
     have key:∀l:List Int,l.length=m.ae.length→nth (q9 m fl frm t r back l) ((nth m.roads r).dst back).toNat≤t:=by
      intro l ll
      have r3:=Road.jr (h.rs _ (ai (l:=m.roads) (j:=r) (by omega))) back
      unfold q9
      rw[if_pos ⟨h1,h2⟩,sk _ _ (by omega),if_pos rfl]
      omega
     cases back with
     | false=>have:=key (chN m fl frm t r) (by rw[mS];omega);omega
     | true=>exact key _ (by rw[qN,mS];omega)
theorem Kb{m:bh}(h:m.ok){old:List Spn}(ho:ky m old=true){next:bh}(hn:next.ok){fl:List Spn}(hf:ky next fl=true)(hp:next.ae.length=m.ae.length){s:Wh}(hs:oP m s=true){t:Int}(h1:s.time≤t)(h2:t≤2147483648):
 ∃s':Wh,rk m old next fl s t=(s',0)∧U8 next fl s'∧s'.time=t∧(∀j,nth s'.frm j≤max (nth s.frm j) t)∧
  ∀k,k<m.roads.length→∀back,nth s.frm ((nth m.roads k).src back).toNat≤t→0≤jN (nth m.roads k) (nth old k) back→nth s'.frm ((nth m.roads k).dst back).toNat≤t:=by
 obtain⟨s1,s2,s3⟩:=zO hs
 have ht:inT t:=by unfold inT at s2 ⊢;omega
 have hb:bnd s.frm:=fun x hx=>by
  have:=s3 x hx
  unfold plS at this;unfold inT at s2;omega
 have cb:=JR h old s1 hb ht m.roads.length (aLs _)
 have cl:=mS m old s.frm t m.roads.length
 have ca:=X4 t (chN m old s.frm t m.roads.length)
 rw[cl,s1]at ca
 have tm:=ajh ht cb (U5 h s1 (fun x=>x≤ue∨x=1099511627776) (fun x hx=>by
  have:=s3 x hx
  unfold plS at this;simp only[ue];omega) (by unfold inT at ht;simp only[ue];omega) _ (aLs _))
 have ml:(mxL t (chN m old s.frm t m.roads.length)).length=next.ae.length:=by simp only[mxL,List.length_map];omega
 have f:=DB hn (fl:=fl) ml tm (t:=t) (fun x hx=>by
  simp only[mxL,List.mem_map]at hx
  obtain⟨y, -,rfl⟩:=hx
  omega) ht
 refine⟨_,?_,f.1,rfl,fun j=>?_,fun k hk back a b=>?_⟩
 · unfold rk
   rw[if_neg (by simp[hs,ho,hf,hp]),if_neg (by omega),ca]
 · refine Int.le_trans (f.2 j) ?_
   by_cases hj:j<m.ae.length
   · rw[OV t (by omega)]
     have:=ZR h (fl:=old) (t:=t) s1 m.roads.length (aLs _) j
     omega
   · rw[OW (by omega)];unfold inT at ht;omega
 · have r3:=Road.jr (h.rs _ (ai hk)) back
   refine Int.le_trans (f.2 _) ?_
   rw[OV t (by omega)]
   have:=Qz h s1 a b m.roads.length (aLs _) hk
   omega
end Go.Ev
namespace Go.Ev
open Go
variable [Lib] [dM] [dh]
section
variable {m : bh} (hm : m.ok) {N : Nat} {b : Bel} (hb : BOk m N b) {s : Wh} (hs : s.frm.length = m.ae.length) {l : List Mch}
variable (hl : ∀ y ∈ l, y.pl.length ≤ m.ae.length ∧ 1 ≤ y.pl.length ∧ ∀ x ∈ y.pl, 0 ≤ x ∧ x < m.ae.length) {t a : Int} (t0 : 0 ≤ t) (t1 : t ≤ 10000) (a0 : 0 ≤ a) (a1 : a ≤ 10000) (d : aD)
include hm hb hs hl t0 t1 a0 a1
omit hm hb t0 t1 a1 in
end
def aD.skip(d:aD)(n:Int):Nat→aD
 | 0=>d
 | k+1=>((d.skip n k).next n).2
end Go.Ev
namespace Go.Ev
open Go
variable [Lib] [dM] [dh] [o6] [ns] [rP] [lz] [mM] [qI] [od] [kA] [km]
def ac7(n:Int)(x:Mch):Bool:= !decide ((x.kind=1∨x.kind=2)∧(0≤x.num∧x.num≤23)∧x.pl.length≠0)|| !EA x.pl n
def afY(m:bh)(l:List Mch):Bool:=decide (l.length≤48)&& !(l.any (ac7 m.ae.length))
theorem X6{m:bh}(h:m.ok)(x:Mch)(hx:x.pl.length≤1000000):aW 0 N.bO [.t x.e,.bp 0 0] [.box (af m)]=some (B (ac7 m.ae.length x),[.box (af m)]):=by
 refine aA K.nF rfl ?_
 have np:=h.np
 have ri:=Mr x.pl 0 (m.ae.length-1) (by omega)
 rw[acE]at ri
 have li:=wo x.num 0 23
 unfold ac7
 obtain⟨ae,roads⟩:=m
 obtain⟨kind,num,pl⟩:=x
 simp only at*
 generalize EA pl ae.length=st at*
 by_cases k:kind=1∨kind=2
 · by_cases c:0≤num∧num≤23
   · have li:aW 0 N.aU [I num,I 0,I 23] []=some (B true,[]):=by rw[li,decide_eq_true c]
     by_cases l:pl.length=0
     · rcases k with rfl | rfl<;>simp(disch:=omega)only[go_sem,K.bO,↓reduceIte,li,l,c,ne_eq,not_true_eq_false,and_false,decide_false,Bool.not_false,Bool.true_or,reduceAdd,reduceSub]
     · rcases k with rfl | rfl<;>cases st<;>simp(disch:=omega)only[go_sem,K.bO,↓reduceIte,li,l,c,ri,ne_eq,not_false_eq_true,and_self,true_or,or_true,decide_true,Bool.not_true,Bool.false_or,Bool.not_false,reduceAdd,reduceSub]
   · have li:aW 0 N.aU [I num,I 0,I 23] []=some (B false,[]):=by rw[li,decide_eq_false c]
     rcases k with rfl | rfl<;>simp(disch:=omega)only[go_sem,K.bO,↓reduceIte,li,c,false_and,and_false,decide_false,Bool.not_false,Bool.true_or,reduceAdd,reduceSub]
 · have k1:¬kind=1:=fun e=>k (.inl e)
   have k2:¬kind=2:=fun e=>k (.inr e)
   simp(disch:=omega)only[go_sem,K.bO,↓reduceIte,k1,k2,or_self,false_and,decide_false,Bool.not_false,Bool.true_or,reduceAdd,reduceSub]
theorem ac8{m:bh}(h:m.ok)(l:List Mch)(hl:l.length≤1000000)(hs:∀x∈l,x.pl.length≤1000000):aW 0 N.dt [.t m.e,.t (.sl (l.map Mch.e))] []=some (B (afY m l),[]):=by
 refine aA K.pI rfl ?_
 have v:=pX h
 have cf:=DR l (by omega) N.bO [[.sl (m.ae.map Place.e),.sl (m.roads.map Road.e)]] (ac7 m.ae.length) (fun x hx=>X6 h x (hs x hx))
 have cf:aW 0 N.az [.t (.sl (l.map Mch.e)),.fn N.bO [.bp 0 0]] [.box (af m)]=some (B (l.any (ac7 m.ae.length)),[.box (af m)]):=cf
 unfold afY
 obtain⟨ae,roads⟩:=m
 simp only at*
 generalize (l.any (ac7 ae.length))=an at*
 by_cases c:l.length≤48
 · cases an<;>simp(disch:=omega)only[go_sem,K.dt,↓reduceIte,v,cf,c,decide_true,Bool.true_and,reduceAdd,reduceSub]
 · simp(disch:=omega)only[go_sem,K.dt,↓reduceIte,v,c,decide_false,Bool.false_and,reduceAdd,reduceSub]
def U9(m:bh)(l:List Mch)(s:Wh)(b:Bel)(t a:Int):List Int×Int:=
 if afY m l=true∧oP m s=true∧yg m b=true then
  (if(0≤t∧t≤2147483648)∧(0≤a∧a≤2147483648)then(l.map fun x=>xw x s b t a,0)else([],8))
 else([],6)
theorem MB{α β:Type} [Dat α](f:α→β){l:List α}{j:Nat}(h:j<l.length):(l.take (j+1)).map f=(l.take j).map f++[f (nth l j)]:=by
 rw[yd h,List.map_append];rfl
section
variable {m : bh} (hm : m.ok) (l : List Mch) (hl : l.length ≤ 1000) (hp : ∀ x ∈ l, x.pl.length ≤ 1000000) (s : Wh) (hs : s.frm.length ≤ 1000000) (b : Bel) (hb : b.sz) (t a : Int)
include hm hl hp hs hb
theorem RY(h1:0≤t)(h2:t≤2147483648)(h3:0≤a)(h4:a≤2147483648):∀z0 z1 z2 z3 z9 z10 z12:D,exS aW K.p6 ⟨[z0,z1,z2,z3,I t,I a,.bp 0 0,.bp 1 0,.bp 2 0,z9,z10,.ref 3 0 0,z12,.t (.sl (l.map Mch.e)),I l.length,I 0],[.box (af m),.box [I s.time,.t (tL s.frm)],.box [.t (.sl (b.aK.map World.e))],.arr 1 false 0 []]⟩=
 some (.exit 1,⟨[.und,.und,.und,.und,I t,I a,.bp 0 0,.bp 1 0,.bp 2 0,.und,.und,.ref 3 0 (l.map fun x=>xw x s b t a).length,.und,.t (.sl (l.map Mch.e)),I l.length,I l.length],[.box (af m),.box [I s.time,.t (tL s.frm)],.box [.t (.sl (b.aK.map World.e))],mW (l.map fun x=>xw x s b t a)]⟩):=by
 intro z0 z1 z2 z3 z9 z10 z12
 have fin:l.map (fun x=>xw x s b t a)=(l.take l.length).map (fun x=>xw x s b t a):=by rw[List.take_length]
 rw[fin]
 refine dm (fun j=>⟨[.und,.und,.und,.und,I t,I a,.bp 0 0,.bp 1 0,.bp 2 0,.und,.und,.ref 3 0 ((l.take j).map fun x=>xw x s b t a).length,.und,.t (.sl (l.map Mch.e)),I l.length,I j],[.box (af m),.box [I s.time,.t (tL s.frm)],.box [.t (.sl (b.aK.map World.e))],mW ((l.take j).map fun x=>xw x s b t a)]⟩) l.length rfl ?_ ?_ (by simp)
 · intro j hj
   have ex:(l.map Mch.e)[j]?=some (nth l j).e:=iE _ hj
   have c:=ZJ m (nth l j) (hp _ (ai hj)) s hs b hb t a (by omega) (by omega)
   have mt:=MB (fun x=>xw x s b t a) hj
   have ln:((l.take j).map fun x=>xw x s b t a).length≤1000:=by rw[List.length_map,List.length_take];omega
   simp only[mt]
   generalize (l.take j).map (fun x=>xw x s b t a)=r at*
   generalize xw (nth l j) s b t a=v at*
   generalize nth l j=x at*
   obtain⟨ae,roads⟩:=m
   obtain⟨kind,num,pl⟩:=x
   obtain⟨time,frm⟩:=s
   obtain⟨ws⟩:=b
   clear mt fin
   simp only[mW]at*
   simp(disch:=omega)only[go_sem,K.kX,↓reduceIte,ex,c,List.map_append,List.map_cons,List.map_nil,aLv,List.length_cons,List.length_nil,reduceAdd,reduceSub]
 · generalize (l.take l.length).map (fun x=>xw x s b t a)=r at*
   simp only[mW]
   simp(disch:=omega)only[go_sem,K.kX,↓reduceIte,reduceAdd,reduceSub]
theorem X7:aW 0 N.bI [.t m.e,.t (.sl (l.map Mch.e)),.t s.e,.t b.e,I t,I a] []=some (.tup [.t (tL (U9 m l s b t a).1),I (U9 m l s b t a).2],[]):=by
 refine aA K.mU rfl ?_
 have v1:=ac8 hm l (by omega) hp
 have v2:=U4 hm s hs
 have v3:=RS hm b hb
 have i1:=wo t 0 2147483648
 have i2:=wo a 0 2147483648
 have lp:=RY hm l hl hp s hs b hb t a
 have mc:(l.map fun x=>xw x s b t a).length≤1000:=by rw[List.length_map];exact hl
 unfold U9
 generalize afY m l=b1 at*
 generalize oP m s=b2 at*
 generalize yg m b=b3 at*
 generalize (l.map fun x=>xw x s b t a)=r at*
 obtain⟨ae,roads⟩:=m
 obtain⟨time,frm⟩:=s
 obtain⟨ws⟩:=b
 simp only[mW]at*
 clear hm hb hp
 cases b1 with
 | false=>simp(disch:=omega)only[go_sem,K.bI,↓reduceIte,v1,aLt,false_and,reduceAdd,reduceSub]<;>try rfl
 | true=>
   cases b2 with
   | false=>simp(disch:=omega)only[go_sem,K.bI,↓reduceIte,v1,v2,aLt,false_and,and_false,reduceAdd,reduceSub]<;>try rfl
   | true=>
     cases b3 with
     | false=>simp(disch:=omega)only[go_sem,K.bI,↓reduceIte,v1,v2,v3,aLt,false_and,and_false,reduceAdd,reduceSub]<;>try rfl
     | true=>
       by_cases c1:0≤t∧t≤2147483648
       · rw[decide_eq_true c1]at i1
         by_cases c2:0≤a∧a≤2147483648
         · rw[decide_eq_true c2]at i2
           have lp:=lp c1.1 c1.2 c2.1 c2.2
           simp(disch:=omega)only[go_sem,K.bI,↓reduceIte,v1,v2,v3,i1,i2,c1,c2,lp,and_self,reduceAdd,reduceSub]
         · rw[decide_eq_false c2]at i2
           simp(disch:=omega)only[go_sem,K.bI,↓reduceIte,v1,v2,v3,i1,i2,c1,c2,and_self,and_false,reduceAdd,reduceSub]<;>try rfl
       · rw[decide_eq_false c1]at i1
         simp(disch:=omega)only[go_sem,K.bI,↓reduceIte,v1,v2,v3,i1,c1,and_self,false_and,reduceAdd,reduceSub]<;>try rfl
end
end Go.Ev
namespace Go.Ev
open Go
variable [Lib] [dM] [dh] [o6] [ns] [lz] [mM]
end Go.Ev
namespace Go.Ev
open Go
variable [Lib] [dM] [dh]
theorem EH{α:Type} [Dat α](l:List α)(k:Nat)(hk:k<l.length)(x:α)(j:Nat):nth (l.set k x) j=if j=k then x else nth l j:=by
 unfold nth
 by_cases h:j=k
 · subst h;rw[if_pos rfl];simp[hk]
 · rw[if_neg h]
   have:¬k=j:=fun e=>h e.symm
   simp[List.getElem?_set,this]
theorem X8{α:Type} [Dat α]{a b:List α}(h:a.length=b.length)(e:∀j,j<a.length→nth a j=nth b j):a=b:=by
 apply List.ext_getElem h
 intro j h1 h2
 have:=e j h1
 rwa [bY (aLc h1),bY (aLc h2)]at this
def clW(m:bh)(t:Int)(into:Option (List Int))(y:List Int):Prop:=∀k,k<m.roads.length→∀back,T1 into ((nth m.roads k).dst back)=true→0≤jV m k back 6 9 12→
 nth y ((nth m.roads k).src back).toNat<1099511627776→max t (nth y ((nth m.roads k).src back).toNat+jV m k back 6 9 12)≤2147483648→
 nth y ((nth m.roads k).dst back).toNat≤max t (nth y ((nth m.roads k).src back).toNat+jV m k back 6 9 12)
theorem QA{m:bh}{t t':Int}(ht:t≤t'){into:Option (List Int)}{y:List Int}(h:clW m t none y):clW m t' into y:=by
 intro k hk back _ h1 h2 h3
 have:=h k hk back rfl h1 h2 (by omega)
 omega
theorem zY{α:Type}{f:α→α×Bool}(P:α→Prop)(hP:∀l,P l→P (f l).1):∀n l,P l→P (ef f n l)
 | 0,l,h=>h
 | n+1,l,h=>by
   unfold ef
   split
   · exact zY P hP n _ (hP l h)
   · exact hP l h
theorem F6{α:Type}{f:α→α×Bool}(P:α→Prop)(mes:α→Nat)(hP:∀l,P l→P (f l).1∧((f l).2=true→mes (f l).1<mes l)∧((f l).2=false→(f l).1=l)):∀n l,P l→mes l<n→(f (ef f n l)).2=false∧P (ef f n l)
 | 0,l,_,h=>by omega
 | n+1,l,hp,h=>by
   obtain⟨h1,h2,h3⟩:=hP l hp
   unfold ef
   cases hf:(f l).2 with
   | true=>
     rw[if_pos rfl]
     have:=h2 hf
     exact F6 P mes hP n _ h1 (by omega)
   | false=>
     rw[if_neg (by simp),h3 hf]
     exact⟨hf,hp⟩
theorem EI{m:bh}(t:Int)(into:Option (List Int))(k:Nat)(back:Bool)(l:List Int):
 (T1 into ((nth m.roads k).dst back)=true∧0≤jV m k back 6 9 12∧nth l ((nth m.roads k).src back).toNat<1099511627776∧max t (nth l ((nth m.roads k).src back).toNat+jV m k back 6 9 12)≤2147483648∧
  max t (nth l ((nth m.roads k).src back).toNat+jV m k back 6 9 12)<nth l ((nth m.roads k).dst back).toNat∧
  gG m t into k back l=(l.set ((nth m.roads k).dst back).toNat (max t (nth l ((nth m.roads k).src back).toNat+jV m k back 6 9 12)),true))∨
 (gG m t into k back l=(l,false)∧¬(T1 into ((nth m.roads k).dst back)=true∧0≤jV m k back 6 9 12∧nth l ((nth m.roads k).src back).toNat<1099511627776∧max t (nth l ((nth m.roads k).src back).toNat+jV m k back 6 9 12)≤2147483648∧
  max t (nth l ((nth m.roads k).src back).toNat+jV m k back 6 9 12)<nth l ((nth m.roads k).dst back).toNat)):=by
 unfold gG q7 qt
 cases T1 into ((nth m.roads k).dst back)with
 | false=>right;simp
 | true=>
   simp only[↓reduceIte,true_and,aLr,decide_eq_true_eq]
   by_cases c:((0≤jV m k back 6 9 12∧nth l ((nth m.roads k).src back).toNat<1099511627776)∧max t (nth l ((nth m.roads k).src back).toNat+jV m k back 6 9 12)≤2147483648)∧max t (nth l ((nth m.roads k).src back).toNat+jV m k back 6 9 12)<nth l ((nth m.roads k).dst back).toNat
   · left
     refine⟨c.1.1.1,c.1.1.2,c.1.2,c.2,?_⟩
     rw[if_pos c]
     simp[c.1.1.1,c.1.1.2,c.1.2,c.2]
   · right
     refine⟨?_,fun h=>c ⟨⟨⟨h.1,h.2.1⟩,h.2.2.1⟩,h.2.2.2⟩⟩
     rw[if_neg c]
     simp only[Prod.mk.injEq,true_and]
     rw[Bool.eq_false_iff];intro h;simp only[aLr,decide_eq_true_eq]at h;exact c h
section
variable {m : bh} (h : m.ok) {t : Int} {into : Option (List Int)}
include h
theorem I8(P:List Int→Prop)(hP:∀l,l.length=m.ae.length→bnd l→P l→∀k,k<m.roads.length→∀back,P (gG m t into k back l).1){l:List Int}(hl:l.length=m.ae.length)(hb:bnd l)(hp:P l):∀k,k≤m.roads.length→P (gw m t into l k).1
 | 0,_=>hp
 | k+1,hk=>by
   have ih:=I8 P hP hl hb hp k (by omega)
   have b1:=kN h (t:=t) (into:=into) hl hb k (by omega)
   have l1:(gw m t into l k).1.length=m.ae.length:=by rw[eA,hl]
   simp only[gw,zM]
   exact hP _ (by rw[tN,l1]) (xe h l1 b1 (by omega) false) (hP _ l1 b1 ih k (by omega) false) k (by omega) true
theorem CC(P:List Int→Prop)(hP:∀l,l.length=m.ae.length→bnd l→P l→∀k,k<m.roads.length→∀back,P (gG m t into k back l).1){l:List Int}(hl:l.length=m.ae.length)(hb:bnd l)(hp:P l):P (eB m t into l):=
 (zY (f:=eh m t into) (fun l=>(l.length=m.ae.length∧bnd l)∧P l) (fun l hl=>⟨⟨by unfold eh;rw[eA];exact hl.1.1,kN h hl.1.1 hl.1.2 _ (aLs _)⟩,I8 h P hP hl.1.1 hl.1.2 hl.2 _ (aLs _)⟩) _ l ⟨⟨hl,hb⟩,hp⟩).2
theorem F7{l:List Int}(hl:l.length=m.ae.length)(hb:bnd l):(eB m t into l).length=m.ae.length∧bnd (eB m t into l):=
 (zY (f:=eh m t into) (fun l=>(l.length=m.ae.length∧bnd l)) (fun l hl=>⟨by unfold eh;rw[eA];exact hl.1,kN h hl.1 hl.2 _ (aLs _)⟩) _ l ⟨hl,hb⟩)
theorem Va{l:List Int}(hl:l.length=m.ae.length)(hb:bnd l)(j:Nat):nth (eB m t into l) j≤nth l j:=
 CC h (fun l'=>nth l' j≤nth l j) (fun l' hl' hb' hp k hk back=>by
  have r2:=Road.jr (h.rs _ (ai hk)) back
  rcases EI (m:=m) t into k back l' with⟨_,_,_,_,c,e⟩ | ⟨e,_⟩
  · rw[e];simp only
    rw[EH _ _ (by omega)]
    split
    · rename_i hj;rw[hj]at hp;rw[hj];omega
    · exact hp
  · rw[e];exact hp) hl hb (Int.le_refl _)
theorem Vb{y l:List Int}(hy:clW m t into y)(hl:l.length=m.ae.length)(hb:bnd l)(hle:∀j,nth y j≤nth l j):∀j,nth y j≤nth (eB m t into l) j:=
 CC h (fun l'=>∀j,nth y j≤nth l' j) (fun l' hl' hb' hp k hk back=>by
  have r2:=Road.jr (h.rs _ (ai hk)) back
  rcases EI (m:=m) t into k back l' with⟨c1,c2,c3,c4,c5,e⟩ | ⟨e,_⟩
  · rw[e];simp only
    intro j
    rw[EH _ _ (by omega)]
    split
    · rename_i hj
      have:=hp ((nth m.roads k).src back).toNat
      have:=hy k hk back c1 c2 (by omega) (by omega)
      rw[hj];omega
    · exact hp j
  · rw[e];exact hp) hl hb hle
theorem MC{l:List Int}(hl:l.length=m.ae.length)(hb:bnd l):∀k,k≤m.roads.length→(gw m t into l k).2=false→∀i,i<k→∀back,(gG m t into i back l).2=false
 | 0,_,_,i,hi,_=>by omega
 | k+1,hk,hf,i,hi,back=>by
   have e:=(tO h (t:=t) (into:=into) hl hb k (by omega)).2
   have ih:=MC hl hb k (by omega)
   simp only[gw,zM,Bool.or_eq_false_iff]at hf
   obtain⟨⟨f1,f2⟩,f3⟩:=hf
   have e:=e f1
   rw[e]at f2 f3
   have e2:=(Fv h (t:=t) (into:=into) hl hb (k:=k) (by omega) false).2 f2
   rw[e2]at f3
   by_cases c:i<k
   · exact ih f1 i c back
   · have:i=k:=by omega
     subst this
     cases back
     · exact f2
     · exact f3
theorem MD{l:List Int}(hl:l.length=m.ae.length)(hb:bnd l):clW m t into (eB m t into l):=by
 obtain⟨h1,h2,h3⟩:=F6 (f:=eh m t into) (fun l=>l.length=m.ae.length∧bnd l) o5 (fun l ⟨hl,hb⟩=>⟨⟨by unfold eh;rw[eA];exact hl,kN h hl hb _ (aLs _)⟩,tO h hl hb _ (aLs _)⟩) (o5 l+1) l ⟨hl,hb⟩ (Nat.lt_succ_self _)
 intro k hk back c1 c2 c3 c4
 have no:=MC h (t:=t) (into:=into) h2 h3 m.roads.length (aLs _) h1 k hk back
 change (gG m t into k back (eB m t into l)).2=false at no
 rcases EI (m:=m) t into k back (eB m t into l)with⟨_,_,_,_,_,e⟩ | ⟨_,e⟩
 · rw[e]at no;cases no
 · exact Classical.byContradiction fun hc=>e ⟨c1,c2,c3,c4,by omega⟩
theorem Vc{l:List Int}(hl:l.length=m.ae.length)(hb:bnd l)(hc:clW m t into l):eB m t into l=l:=by
 apply X8 (by rw[(F7 h hl hb).1,hl])
 intro j hj
 exact Int.le_antisymm (Va h hl hb j) (Vb h hc hl hb (fun _=>Int.le_refl _) j)
theorem I9(P:Int→Prop){l:List Int}(hl:l.length=m.ae.length)(hb:bnd l)(hp:∀x∈l,P x)(ht:∀x,t≤x→x≤2147483648→P x):∀x∈eB m t into l,P x:=
 CC h (fun l'=>∀x∈l',P x) (fun l' hl' hb' hp k hk back=>by
  rcases EI (m:=m) t into k back l' with⟨c1,c2,c3,c4,c5,e⟩ | ⟨e,_⟩
  · rw[e]
    intro x hx
    rcases aLk hx with hx | hx
    · exact hp x hx
    · subst hx;exact ht _ (by omega) c4
  · rw[e];exact hp) hl hb hp
end
theorem F8{m:bh}(h:m.ok){w:Wh}(hl:w.frm.length=m.ae.length)(ht:inT w.time)(hp:∀x∈w.frm,plT x)(hc:clW m w.time none w.frm):ei m w=true:=by
 have hb:bnd w.frm:=fun x hx=>sV (hp x hx)
 simp only[ei,xf,aLr,decide_eq_true_eq,aLx,aLu]
 exact⟨⟨⟨by omega,ht⟩,fun j hj=>hp _ (ai hj)⟩,Vc h hl hb hc⟩
theorem F9{m:bh}(h:m.ok){w:Wh}(hv:ei m w=true):clW m w.time none w.frm:=by
 obtain⟨v1,v2,v3,v4⟩:=jh hv
 have:=MD h (t:=w.time) (into:=none) v1 (fun x hx=>sV (v3 x hx))
 rwa [v4]at this
theorem zZ{m:bh}(h:m.ok){l:List Int}(hl:l.length=m.ae.length)(hp:∀x∈l,plT x){a b:Int}(ha:0≤a)(hab:a≤b)(hb:inT b):ei m ⟨b,eB m a none l⟩=true:=by
 have bn:bnd l:=fun x hx=>sV (hp x hx)
 exact F8 h (F7 h hl bn).1 hb (I9 h plT hl bn hp (fun x h1 h2=> .inr ⟨by omega,h2⟩)) (QA hab (MD h hl bn))
theorem Vd(n:Nat):∀x∈pS n,plT x:=fun x hx=>by rw[List.eq_of_mem_replicate hx];exact .inl rfl
theorem OX{m:bh}(h:m.ok){p t:Int}(h0:0≤p)(h1:p<m.ae.length)(ht:inT t):jt m p t=(⟨t,eB m t none ((pS m.ae.length).set p.toNat t)⟩,0)∧ei m (jt m p t).1=true:=by
 have e:jt m p t=(⟨t,eB m t none ((pS m.ae.length).set p.toNat t)⟩,0):=by
  unfold jt;rw[if_neg (by omega),if_pos ht]
 refine⟨e,?_⟩
 rw[e]
 refine zZ h (by simp) (fun x hx=>?_) ht.1 (Int.le_refl _) ht
 rcases aLk hx with hx | hx
 · exact Vd _ x hx
 · subst hx;exact .inr ht
theorem QB{w:Wh}{l:List Int}{b:Int}{n:Nat}(hl:∀p∈l,0≤p∧p<n):∀k,k≤l.length→∀j,j<n→nth (G4 w l b n k).1 j=if(j:Int)∈l.take k∧nth w.frm j≤b then nth w.frm j else 1099511627776
 | 0,_,j,hj=>by
   rw[if_neg (by simp)]
   exact bY (by simp[G4,pS,hj])
 | k+1,hk,j,hj=>by
   have ih:=QB (w:=w) (b:=b) hl k (by omega) j hj
   have p:=hl _ (ai (l:=l) (j:=k) (by omega))
   rw[yd (by omega)]
   simp only[G4,Cm]
   by_cases e:(j:Int)=nth l k
   · have e2:j=(nth l k).toNat:=by omega
     by_cases c:nth w.frm (nth l k).toNat≤b
     · rw[if_pos c,EH _ _ (by rw[vj];omega),if_pos e2,if_pos ⟨by simp[e],by rw[e2];exact c⟩,e2]
     · rw[if_neg c,ih,if_neg (fun x=>c (by rw[← e2];exact x.2)),if_neg (fun x=>c (by rw[← e2];exact x.2))]
   · have e2:¬j=(nth l k).toNat:=by omega
     have mm:((j:Int)∈l.take k++[nth l k])↔(j:Int)∈l.take k:=by simp[e]
     simp only[mm]
     rw[← ih]
     split
     · rw[EH _ _ (by rw[vj];omega),if_neg e2]
     · rfl
end Go.Ev
namespace Go.Ev
open Go
variable [Lib] [dM] [dh] [qI] [od]
theorem Ve{l:List Int}{n:Int}(h:EA l n=true):∀x∈l,0≤x∧x<n:=by
 intro x hx
 simp only[EA,aLx,aLu,decide_eq_true_eq]at h
 obtain⟨j,hj⟩:=aLf.1 hx
 have:=h j (aLe.1 hj).1
 rw[bY hj]at this
 exact⟨this.1,this.2.1⟩
theorem ac9{w:Wh}{l:List Int}{b:Int}{n:Nat}(hl:∀p∈l,0≤p∧p<n)(hw:∀x∈w.frm,plT x)(hn:w.frm.length=n):∀x∈(G4 w l b n l.length).1,plT x:=by
 intro x hx
 obtain⟨j,hj⟩:=aLf.1 hx
 have jl:=(aLe.1 hj).1
 rw[vj]at jl
 have e:=QB (w:=w) (b:=b) hl _ (aLs _) j jl
 rw[bY hj]at e
 rw[e]
 split
 · exact hw _ (ai (by omega))
 · exact .inl rfl
theorem Vf{m:bh}(h:m.ok){w:Wh}(hv:ei m w=true)(l:List Int)(a b:Int):
 (JO m w l a b=(⟨b,eB m a none (G4 w l b m.ae.length l.length).1⟩,0)∧oO m w l a b=0∧w.time≤a∧(G4 w l b m.ae.length l.length).2=true∧ei m (JO m w l a b).1=true)∨((JO m w l a b).1=w∧(JO m w l a b).2≠0):=by
 by_cases c0:oO m w l a b=0
 · obtain⟨-,h0,hs,ia,ib,hab⟩:=qF c0
   by_cases c1:a<w.time
   · right;unfold JO;rw[if_neg (by simpa using c0),if_pos c1];exact⟨rfl,by simp⟩
   · cases c2:(G4 w l b m.ae.length l.length).2 with
     | false=>right;unfold JO;rw[if_neg (by simpa using c0),if_neg c1,if_neg (by simp[c2])];exact⟨rfl,by simp⟩
     | true=>
       left
       have e:JO m w l a b=(⟨b,eB m a none (G4 w l b m.ae.length l.length).1⟩,0):=by
        unfold JO;rw[if_neg (by simpa using c0),if_neg c1,if_pos c2]
       obtain⟨v1,v2,v3, -⟩:=jh hv
       refine⟨e,c0,by omega,rfl,?_⟩
       rw[e]
       exact zZ h (vj ..) (ac9 (Ve hs) v3 v1) ia.1 hab ib
 · right;unfold JO;rw[if_pos c0];exact⟨rfl,c0⟩
theorem Vg{m:bh}(h:m.ok){w:Wh}(hv:ei m w=true)(l:List Int)(a b:Int):ei m (JO m w l a b).1=true:=by
 rcases Vf h hv l a b with⟨-, -, -, -,v⟩ | ⟨e, -⟩
 · exact v
 · rw[e];exact hv
end Go.Ev
namespace Go.Ev
open Go
variable [Lib] [dM] [dh] [o6] [ns] [lz] [mM] [qI] [od]
end Go.Ev
namespace Go.Ev
open Go
variable [Lib] [dM] [dh] [rP]
end Go.Ev
namespace Go.Ev
open Go
variable [Lib] [dM] [dh] [o6] [ns] [rP] [lz] [mM] [qI] [od]
theorem QC(a b:List Int):∀n j,j<n→nth (Rr a b n) j=min (nth a j) (nth b j)
 | 0,j,h=>by omega
 | n+1,j,h=>by
   have ln:=r6 a b n
   by_cases e:j=n
   · subst e
     exact bY (by simp only[Rr];rw[aLh (by omega),ln];simp)
   · have ih:=QC a b n j (by omega)
     rw[← ih]
     have:(Rr a b n)[j]?=some (nth (Rr a b n) j):=oN (by omega)
     exact bY (by simp only[Rr];rw[aLg (by omega)];exact this)
theorem RZ{m:bh}(h:m.ok){a b:Wh}(ha:ei m a=true)(hb:ei m b=true):(rO a b).2=0∧ei m (rO a b).1=true∧(rO a b).1.frm.length=m.ae.length∧∀j,j<m.ae.length→nth (rO a b).1.frm j=min (nth a.frm j) (nth b.frm j):=by
 obtain⟨a1,a2,a3, -⟩:=jh ha
 obtain⟨b1,b2,b3, -⟩:=jh hb
 have ca:=F9 h ha
 have cb:=F9 h hb
 have e:rO a b=(⟨max a.time b.time,Rr a.frm b.frm a.frm.length⟩,0):=by unfold rO;rw[if_pos (by omega)]
 rw[e]
 have mn:=fun j (hj:j<m.ae.length)=>QC a.frm b.frm a.frm.length j (by omega)
 refine⟨rfl,F8 h (by simp only[r6];exact a1) (by unfold inT at *;simp only;omega) (fun x hx=>?_) ?_,by simp only[r6];exact a1,mn⟩
 · obtain⟨j,hj⟩:=aLf.1 hx
   have jl:=(aLe.1 hj).1
   simp only[r6]at jl
   have:=mn j (by omega)
   rw[bY hj]at this
   have x1:=a3 _ (ai (l:=a.frm) (j:=j) jl)
   have x2:=b3 _ (ai (l:=b.frm) (j:=j) (by omega))
   unfold plT inT at*
   omega
 · intro k hk back hi h1 h2 h3
   have r1:=Road.oy (h.rs _ (ai hk)) back
   have r2:=Road.jr (h.rs _ (ai hk)) back
   simp only at h2 h3 ⊢
   rw[mn _ (by omega)]at h2 h3 ⊢
   rw[mn _ (by omega)]
   have y1:=ca k hk back rfl h1
   have y2:=cb k hk back rfl h1
   omega
theorem Vh{m:bh}(h:m.ok){w:Wh}(hv:ei m w=true)(l:List Int)(a b bl:Int):
 (K5 m w l a b bl=(⟨b,eB m b none (eB m (b-bl) (some l) (On w.frm l l.length))⟩,0)∧oO m w l a b=0∧w.time≤b∧max a w.time<b-bl∧inT bl∧
  (eB m (b-bl) (some l) (On w.frm l l.length)).length=m.ae.length∧(∀x∈eB m (b-bl) (some l) (On w.frm l l.length),plT x))∨
 ((K5 m w l a b bl).1=w∧((K5 m w l a b bl).2=0→w.time≤b∧oO m w l a b=0)):=by
 by_cases c0:oO m w l a b=0
 · obtain⟨-,h0,hs,ia,ib,hab⟩:=qF c0
   by_cases c1:inT bl
   · by_cases c2:b<w.time
     · right;unfold K5;rw[if_neg (by simpa using c0),if_neg (fun x=>x c1),if_pos c2];exact⟨rfl,by simp⟩
     · by_cases c3:b-max a w.time≤bl
       · right;unfold K5;rw[if_neg (by simpa using c0),if_neg (fun x=>x c1),if_neg c2,if_pos c3];exact⟨rfl,fun _=>⟨by omega,c0⟩⟩
       · left
         obtain⟨v1,v2,v3, -⟩:=jh hv
         have pl:∀x∈On w.frm l l.length,plT x:=by
          have key:∀k,∀x∈On w.frm l k,plT x:=by
           intro k
           induction k with
           | zero=>exact v3
           | succ k ih=>
             intro x hx
             rcases aLk hx with hx | hx
             · exact ih x hx
             · exact .inl hx
          exact key _
         have bn:bnd (On w.frm l l.length):=fun x hx=>sV (pl x hx)
         unfold inT at ia c1 v2 ib
         refine⟨?_,c0,by omega,by omega,c1,(F7 h (by rw[AY];exact v1) bn).1,I9 h plT (by rw[AY];exact v1) bn pl (fun x h1 h2=> .inr ⟨by omega,h2⟩)⟩
         unfold K5;rw[if_neg (by simpa using c0),if_neg (fun x=>x (by unfold inT;omega)),if_neg c2,if_neg c3]
   · right;unfold K5;rw[if_neg (by simpa using c0),if_pos c1];exact⟨rfl,by simp⟩
 · right;unfold K5;rw[if_pos c0];exact⟨rfl,fun h=>absurd h c0⟩
theorem Vi{m:bh}(h:m.ok){w:Wh}(hv:ei m w=true)(l:List Int)(a b bl:Int):ei m (K5 m w l a b bl).1=true:=by
 rcases Vh h hv l a b bl with⟨e,c0, -,hm,hbl,ln,pl⟩ | ⟨e, -⟩
 · obtain⟨-, -,hs,ia,ib,hab⟩:=qF c0
   rw[e]
   exact zZ h ln pl (by unfold inT at ib;omega) (Int.le_refl _) ib
 · rw[e];exact hv
end Go.Ev
namespace Go.Ev
open Go
variable [Lib] [dM] [dh]
def sh(s x:Int):Int:=if x<1099511627776 then x+s else x
def shL(s:Int)(l:List Int):List Int:=l.map (sh s)
@[simp] theorem aoG (s : Int) (l : List Int) : (shL s l).length = l.length := List.length_map ..
end Go.Ev
namespace Go.Ev
open Go
variable [Lib] [dM] [dh] [o6] [ns] [rP] [lz] [mM] [qI] [od]
end Go.Ev
namespace Go.Ev
open Go
variable [Lib] [dM] [dh] [o6] [ns] [rP] [lz] [mM] [qI] [od] [kA] [km]
end Go.Ev
namespace Go.Ev.N
def R0:Nat:=271
def Vj:Nat:=272
def OY:Nat:=273
def SF:Nat:=274
def Wc:Nat:=275
def Vk:Nat:=276
def ada:Nat:=277
def lV:Nat:=278
def afZ:Nat:=279
def af0:Nat:=280
def Wd:Nat:=281
def aji:Nat:=282
def ZS:Nat:=283
def adb:Nat:=284
def ade:Nat:=285
def af1:Nat:=286
def BX:Nat:=287
def af2:Nat:=288
def lW:Nat:=289
def lX:Nat:=290
def adf:Nat:=291
def adg:Nat:=292
def We:Nat:=293
def adh:Nat:=294
def adi:Nat:=295
def ZT:Nat:=296
def bz:Nat:=297
def bA:Nat:=298
def iR:Nat:=299
def b5:Nat:=300
def aQ:Nat:=301
def aI:Nat:=302
def bG:Nat:=303
def aR:Nat:=304
def a8:Nat:=305
def DC:Nat:=306
def Bp:Nat:=307
def fP:Nat:=308
end Go.Ev.N
namespace Go.Ev.N
def ZU:Nat:=309
def Vl:Nat:=310
def Wf:Nat:=311
def Wg:Nat:=312
def Vm:Nat:=313
def adj:Nat:=314
def aoH:Nat:=315
def p7:Nat:=316
def adk:Nat:=317
def adl:Nat:=318
def lY:Nat:=319
def adm:Nat:=320
def ajj:Nat:=321
def ajk:Nat:=322
def lZ:Nat:=323
def iS:Nat:=324
def p8:Nat:=325
def al1:Nat:=326
def Wi:Nat:=327
def ZV:Nat:=328
def X9:Nat:=329
def aP:Nat:=330
def aS:Nat:=331
def Ya:Nat:=332
def Vn:Nat:=333
end Go.Ev.N
namespace Go.Ev.N
def R1:Nat:=334
def SG:Nat:=335
def SH:Nat:=336
def adn:Nat:=337
def R2:Nat:=338
def ma:Nat:=339
def ado:Nat:=340
def af3:Nat:=341
def mh:Nat:=342
def nY:Nat:=343
def af4:Nat:=344
def al2:Nat:=345
def Wj:Nat:=346
def adp:Nat:=347
def af5:Nat:=348
def af6:Nat:=349
def fe:Nat:=350
def iT:Nat:=351
def iU:Nat:=352
def j9:Nat:=353
def adq:Nat:=354
def Wk:Nat:=355
def af7:Nat:=356
def af8:Nat:=357
def Yb:Nat:=358
def ka:Nat:=359
def ko:Nat:=360
def nZ:Nat:=361
def adr:Nat:=362
def Yc:Nat:=363
def ads:Nat:=364
def af9:Nat:=365
def aga:Nat:=366
def agb:Nat:=367
def agc:Nat:=368
def eD:Nat:=369
def aG:Nat:=370
def aX:Nat:=371
def iV:Nat:=372
def aE:Nat:=373
def iW:Nat:=374
def iX:Nat:=375
def adt:Nat:=376
def adu:Nat:=377
def Wl:Nat:=378
def aL:Nat:=379
def aV:Nat:=380
def gk:Nat:=381
def Yd:Nat:=382
def Vo:Nat:=383
end Go.Ev.N
namespace Go.Ev.N
def Ye:Nat:=384
def Wm:Nat:=385
def Vp:Nat:=386
def Wn:Nat:=387
def Vq:Nat:=388
def adv:Nat:=389
def adw:Nat:=390
def agd:Nat:=391
def SI:Nat:=392
def adx:Nat:=393
def ady:Nat:=394
def SJ:Nat:=395
def n5:Nat:=396
def SK:Nat:=397
def R3:Nat:=398
def ajl:Nat:=399
def age:Nat:=400
def agf:Nat:=401
def Vr:Nat:=402
def agh:Nat:=403
def ajm:Nat:=404
def agi:Nat:=405
def agj:Nat:=406
def ajn:Nat:=407
def QD:Nat:=408
def QE:Nat:=409
def agk:Nat:=410
def ajo:Nat:=411
def ZW:Nat:=412
def K6:Nat:=413
def ajp:Nat:=414
def Ja:Nat:=415
end Go.Ev.N
namespace Go.Ev.N
def ME:Nat:=416
def Ny:Nat:=417
def Nz:Nat:=418
def MF:Nat:=419
def adz:Nat:=420
def SL:Nat:=421
def R4:Nat:=422
def ZX:Nat:=423
def SM:Nat:=424
def SN:Nat:=425
def adA:Nat:=426
def SO:Nat:=427
def QF:Nat:=428
def SP:Nat:=429
def Hn:Nat:=430
def OZ:Nat:=431
def ajq:Nat:=432
def ajr:Nat:=433
def agl:Nat:=434
def QG:Nat:=435
def n9:Nat:=436
def QH:Nat:=437
def mi:Nat:=438
def adB:Nat:=439
def adC:Nat:=440
def ZY:Nat:=441
def adD:Nat:=442
def adE:Nat:=443
def QI:Nat:=444
def agm:Nat:=445
def Yf:Nat:=446
def agn:Nat:=447
def adF:Nat:=448
def ago:Nat:=449
def adG:Nat:=450
def al3:Nat:=451
def al4:Nat:=452
def ajs:Nat:=453
def MG:Nat:=454
def K7:Nat:=455
def ZZ:Nat:=456
def ajt:Nat:=457
def agp:Nat:=458
def aju:Nat:=459
def SQ:Nat:=460
def yy:Nat:=461
def agq:Nat:=462
def ajv:Nat:=463
def O0:Nat:=464
def Z0:Nat:=465
def R5:Nat:=466
def ze:Nat:=467
def QJ:Nat:=468
def QK:Nat:=469
def ajw:Nat:=470
def Wo:Nat:=471
end Go.Ev.N
namespace Go.Ev.N
def Vs:Nat:=472
def Wp:Nat:=473
def Vt:Nat:=474
end Go.Ev.N
namespace Go.Ev.N
def Vu:Nat:=475
def R6:Nat:=476
def R7:Nat:=477
def O1:Nat:=478
def adH:Nat:=479
def adI:Nat:=480
def Z1:Nat:=481
def Yg:Nat:=482
def adJ:Nat:=483
def Z2:Nat:=484
def Z3:Nat:=485
def Z4:Nat:=486
def agr:Nat:=487
def adK:Nat:=488
def QL:Nat:=489
def adL:Nat:=490
def Z5:Nat:=491
def Wq:Nat:=492
def Z6:Nat:=493
def SR:Nat:=494
def adM:Nat:=495
def ags:Nat:=496
def agt:Nat:=497
def O2:Nat:=498
def wz:Nat:=499
def Ws:Nat:=500
def Wt:Nat:=501
def yp:Nat:=502
def NA:Nat:=503
end Go.Ev.N
namespace Go.Ev.N
def SS:Nat:=504
def adN:Nat:=505
def adO:Nat:=506
def agu:Nat:=507
end Go.Ev.N
namespace Go.Ev.N
def SU:Nat:=508
def adP:Nat:=509
def Vv:Nat:=510
def adQ:Nat:=511
def agv:Nat:=512
def oa:Nat:=513
def Z7:Nat:=514
def adR:Nat:=515
def Vw:Nat:=516
def SV:Nat:=517
def R8:Nat:=518
def agw:Nat:=519
def Yh:Nat:=520
def kc:Nat:=521
def im:Nat:=522
def Yi:Nat:=523
def agx:Nat:=524
def bH:Nat:=525
def iY:Nat:=526
def gK:Nat:=527
def bC:Nat:=528
def oc:Nat:=529
def Yj:Nat:=530
def Z8:Nat:=531
def Yk:Nat:=532
def agy:Nat:=533
def eJ:Nat:=534
def eL:Nat:=535
def eM:Nat:=536
def eO:Nat:=537
def eQ:Nat:=538
def eR:Nat:=539
def O3:Nat:=540
def R9:Nat:=541
def O4:Nat:=542
def O5:Nat:=543
def eT:Nat:=544
def eU:Nat:=545
def eV:Nat:=546
def Z9:Nat:=547
def Wu:Nat:=548
def SW:Nat:=549
def dv:Nat:=550
def Wv:Nat:=551
def SX:Nat:=552
def SY:Nat:=553
def QM:Nat:=554
def SZ:Nat:=555
def Vx:Nat:=556
def wA:Nat:=557
def NB:Nat:=558
def NC:Nat:=559
def Sa:Nat:=560
def yq:Nat:=561
end Go.Ev.N
namespace Go.Ev.N
def dX:Nat:=562
def kQ:Nat:=563
def jQ:Nat:=564
def kR:Nat:=565
def ew:Nat:=566
def kS:Nat:=567
def sn:Nat:=568
def mj:Nat:=569
def iq:Nat:=570
def ff:Nat:=571
def ft:Nat:=572
def fy:Nat:=573
def kT:Nat:=574
def fh:Nat:=575
def ir:Nat:=576
def gl:Nat:=577
def qa:Nat:=578
def mr:Nat:=579
def bE:Nat:=580
def gn:Nat:=581
def qb:Nat:=582
def iZ:Nat:=583
def fQ:Nat:=584
def i4:Nat:=585
def mu:Nat:=586
def i5:Nat:=587
def kd:Nat:=588
def i6:Nat:=589
def i7:Nat:=590
def i9:Nat:=591
def ja:Nat:=592
def ke:Nat:=593
def dY:Nat:=594
def fR:Nat:=595
def dZ:Nat:=596
def eb:Nat:=597
def fA:Nat:=598
def jb:Nat:=599
def gQ:Nat:=600
def aH:Nat:=601
def gp:Nat:=602
def kp:Nat:=603
def kf:Nat:=604
def gR:Nat:=605
def eE:Nat:=606
def eG:Nat:=607
def gS:Nat:=608
def aM:Nat:=609
def xz:Nat:=610
def Yl:Nat:=611
def agz:Nat:=612
def zf:Nat:=613
end Go.Ev.N
namespace Go.Ev.K
open Go.Ev
def nH:C:= (.seq (.ite [m v8,u (.bin .gtr l0 (.i 0))] [] 0 .skip (.exit 0)) (.seq (.blk 1 (q [m v7,m v6,u (.ln l0),m v2,f 0 v3,g l0,u (.ln l0),u (.ca N.aC 0 [] [.l 3,.l 0]),u (.bs [.l 0] 1),u (.bd [z0,z0,.nil] [(0,1,.i 1),(1,1,.l 6),(2,1,.l 0)]),u (.bs [.l 0] 3),u (.app l10 l0 true 3),x 7 l0] [] (.reg [m v6,m v2,m v6,u (.ln l0),u (.bin .add l0 (.i 1)),u (.ca N.aC 0 [] [.l 3,.l 0]),u (.bin .sub l0 (.i 1)),m v2,u (.bs [.i 5,.i 0] 1),u (.ca N.cA 0 [] [.l 1,.l 0]),u (.bd [z0,z0] [(0,1,.l 3),(1,1,.l 0)]),u (.bs [.l 0] 2),u (.app l11 l0 true 2),x 6 l0] []))) (.reg [m v8,u (.bin .sub l0 (.i 1)),x 8 l0] [])))
def sq:C:= .loop true [0,1,9,10,11,12,13,14,15,16] K.nH
def kq:C:= (.seq (.ite [m v14,m v7,u (.ln l0),u (.bin .lss l2 l0)] [] 0 .skip (.exit 4)) (.seq (.blk 5 (q [m v6,h 5 v9,m v14,m v12,m v14,a 1 l1 l0,g l0,u (.bin .eql l0 (.i 2)),m l0,e 0 false v12,e 1 false v14,y 2 false (.ia l1 l0 1),i 3 false l0,y 4 false (.bin .eql l0 (.i 1)),u (.pk l5 (.b true) l0),u (.ca N.kR 0 [] [.l 14,.l 13,.l 12,.l 0]),m l0,u (.ex l0 0),u (.ex l1 1),u (.st v9 l1 5 []),x 13 l1] [] (.ite [m v13,u (.bin .neq l0 (.i 0))] [] 0 (q [x 1 (.b false)] [] .ret) .skip))) (.reg [m v14,u (.bin .add l0 (.i 1)),x 14 l0] [])))
def sr:C:= .loop true [0,1,2,8,10,13,15,16] K.kq
def nI:C:= (.seq (.ite [m v15,m v7,u (.ln l0),u (.bin .lss l2 l0)] [] 0 .skip (.exit 6)) (.seq (.blk 7 (.reg [m v6,h 5 v9,m v15,u (.ca N.ew 0 [] [.l 2,.l 1,.l 0]),m l0,u (.ex l0 0),u (.ex l1 1),u (.st v9 l1 5 [])] [])) (.reg [m v15,u (.bin .add l0 (.i 1)),x 15 l0] [])))
def su:C:= .loop true [0,1,2,8,10,12,13,14,16] K.nI
def kr:C:= (.seq (.ite [m v16,m v7,u (.ln l0),u (.bin .lss l2 l0)] [] 0 .skip (.exit 8)) (.seq (.blk 9 (.seq (.ite [f 1 v9,g l0,m v16,a 1 l1 l0,g l0,u (.bin .eql l0 (.i 0))] [] 0 (.exit 9) .skip) (.ite [h 2 v4,m v11,u (.bin .add l0 (.i 20)),u (.ca N.fx 0 [] [.l 2,.l 0]),m v7,m v16,a 3 l1 l0,f 2 l0,g l0,a 1 l0 (.i 0),g l0,u (.ca N.jE 0 [] [.l 7,.l 0]),m l0,y 0 false (.ld v3 2 true),e 1 false v7,e 2 false v16,y 3 false (.ia l1 l0 3),y 4 false (.ld l0 3 true),y 5 false (.ld v4 2 true),y 6 false (.ld v5 1 true),e 7 false v11,y 8 false (.ca N.cR 0 [] [.l 7,.l 3,.l 2,.l 1,.l 0,.i 40]),y 9 false (.ln l0),y 10 false (.bin .gtr l0 (.i 0)),u (.pk l11 (.b true) l0)] [(6,0),(8,0),(9,0),(10,0)] 0 (q [x 1 (.b false)] [] .ret) .skip))) (.reg [m v16,u (.bin .add l0 (.i 1)),x 16 l0] [])))
def sx:C:= .loop true [0,1,2,8,10,12,13,14,15] K.kr
def nJ:C:= (.seq (.ite [m v11,u (.bin .lss l0 (.i 400))] [] 0 .skip (.exit 2)) (.seq (.blk 3 (q [h 2 v3,m v7,h 2 v4,h 1 v5,m v11,u (.ca N.bI 0 [] [.l 4,.l 3,.l 2,.l 1,.l 0,.i 40]),m l0,u (.ex l0 0),u (.ex l1 1),x 12 l1,x 13 l1] [] (.seq (.ite [m v13,u (.bin .neq l0 (.i 0)),m l0,e 0 false v12,y 1 false (.ln l0),e 2 false v7,y 3 false (.ln l0),y 4 false (.bin .neq l2 l0),u (.pk l5 (.b true) l0)] [] 0 (q [x 1 (.b false)] [] .ret) .skip) (.seq (q [x 14 (.i 0)] [] (.blk 4 K.sr)) (.seq (q [x 15 (.i 0)] [] (.blk 6 K.su)) (.seq (q [m v6,h 5 v9,m v11,u (.bin .add l0 (.i 20)),u (.ca N.kS 0 [] [.l 3,.l 2,.l 0]),m l0,u (.ex l0 0),u (.ex l1 1),u (.st v9 l1 5 []),x 13 l1] [] (.ite [m v13,u (.bin .neq l0 (.i 0)),m l0,y 0 false (.fa v9 1),i 1 false l0,y 2 false (.ln l0),e 3 false v6,y 4 false (.ln l0),y 5 false (.bin .neq l2 l0),u (.pk l6 (.b true) l0)] [] 0 (q [x 1 (.b false)] [] .ret) .skip)) (q [x 16 (.i 0)] [] (.blk 8 K.sx)))))))) (.reg [m v11,u (.bin .add l0 (.i 20)),x 11 l0] [])))
def sy:C:= .loop true [0,1,2,8,10,12,13,14,15,16] K.nJ
def dX:Fn:= { av:=1,vars:=[0,2,3,4,5,6,7,8,9,10,11,12,13,14,15,16,17],body:=(q [x 1 (.b false)] [] (.seq (.ite [m v0,u (.ca N.kF 0 [] [.l 0]),u (.un .not l0)] [] 0 (q [u (.ca N.kQ 0 [] []),x 1 l0] [] .ret) .skip) (q [m v0,u (.ca N.mZ 0 [] [.l 0]),x 2 l0] [] (q [m v2,u (.ca N.dw 0 [] [.l 0]),w 3 (.al [.nil,.nil] []),u (.st l0 l1 2 [])] [] (q [w 4 (.al [z0,.nil] []),w 5 (.al [.nil] []),m v2,h 2 v3,m v2,h 2 v3,u (.ca N.cP 0 [] [.l 1,.l 0]),u (.ca N.cg 0 [] [.l 4,.l 3,.l 0]),m v2,h 2 v3,u (.ca N.cQ 0 [] [.l 1,.l 0]),u (.st l10 l3 2 []),u (.st l10 l1 1 [])] [(0,7),(0,8),(0,11),(1,7),(1,8),(1,11),(3,7),(9,2),(9,7)] (q [w 6 (.nw 2)] [] (q [w 7 (.nw 3)] [] (.seq (q [m v2,u (.ca N.aC 0 [] [.l 0,.i 4]),u (.bin .add (.i 1) l0),x 8 l0] [] (.blk 0 K.sq)) (q [m v6,u (.ca N.jQ 0 [] [.l 0]),m l0,u (.ex l0 0),u (.ex l1 1),w 9 (.al [z0,.nil,.nil,.nil,.nil] []),u (.st l0 l2 5 []),x 10 l2] [] (.seq (.ite [m v10,u (.bin .neq l0 (.i 0))] [] 0 (q [x 1 (.b false)] [] .ret) .skip) (.seq (q [x 11 (.i 0)] [] (.blk 2 K.sy)) (q [u (.ca N.kQ 0 [] []),x 1 l0] [] .ret)))))))))))),res:=[(1,none)]}
def kQ:Fn:= { av:=0,vars:=[0,1,2,3,4,5,6],body:=(q [x 0 (.b false)] [] (q [u (.bd [z0,z0] [(0,1,.i 1),(1,1,.i 1)]),u (.bd [z0,z0,z0,z0,z1,z1,z0,z0,z0,z0] [(2,1,.i 12),(3,1,.i 1),(4,1,.b true),(6,2,.l 0)]),w 1 (.al [z0,z0,z0,z0,z1,z1,z0,z0,z0,z0] []),u (.st l0 l1 10 [])] [] (q [w 2 (.al [z0,z0,z0,z0,z1,z1,z0,z0,z0,z0] []),w 3 (.al [z0,z0,z0,z0,z1,z1,z0,z0,z0,z0] []),h 10 v1,h 10 v1,u (.st l3 l1 10 []),u (.st l3 l1 10 [])] [(3,5)] (q [f 1 v2,u (.st l0 (.i 1) 1 []),f 0 v3,u (.st l0 (.i 1) 1 []),f 1 v3,u (.st l0 (.i 2) 1 [])] [] (q [u (.bd [z0,z1] [(1,1,.b true)]),u (.bd [z0,z1] []),u (.bd [z0,z1] []),u (.bs [.l 2,.l 1,.l 0] 2),h 10 v2,h 10 v3,u (.bs [.l 1,.l 0] 10),u (.bd [.nil,.nil] [(0,1,.l 3),(1,1,.l 0)]),w 4 (.al [.nil,.nil] []),u (.st l0 l1 2 [])] [] (q [w 5 (.al [.nil,.nil,z0,.nil,.nil,.nil,.nil,.nil,.nil,.nil,.nil,.nil,.nil,.nil,.nil,z0,.nil,z0,z0,.nil,.nil,.nil,.nil,.nil,z0,.nil,.nil,.nil,z1,z0,z0,z0,z0,.nil,.nil,.nil] []),h 2 v4,u (.bs [.i 0] 1),u (.bd [.nil,z0,z0,z0] [(0,1,.l 0),(1,1,.i 10)]),u (.bs [.l 0] 4),u (.bs [.i 0] 1),u (.bs [.i 9] 1),u (.mk (.i 2) (.t (.agg [(.int .i64 (0)),(.int .i64 (0))])) 2),u (.bd [.nil,.nil,.nil,z0] [(3,1,.i 900)]),u (.bs [.i 2] 1),u (.bd [.nil,z0,z0] [(0,1,.l 0),(1,1,.i 9),(2,1,.i 9)]),u (.bs [.i 1] 1),u (.ca N.oa 0 [] [.l 10,.l 7,.l 6,.l 5,.l 4,.l 3,.l 1,.l 0]),m l0,u (.ex l0 0),u (.ex l1 1),u (.st (.l 15) l1 36 []),x 6 l1] [(0,8),(0,13),(1,8),(2,8),(4,8),(5,8),(6,8),(9,1),(11,1)] (q [h 36 v5,u (.bd [z0,z0,z0,z0] [(0,1,.i 7)]),u (.bd [z0,z0,z0,z0] [(0,1,.i 8),(1,1,.i 1)]),u (.bd [z0,z0,z0,z0] [(0,1,.i 9),(1,1,.i 2)]),u (.bd [z0,z0,z0,z0] [(0,1,.i 2),(2,1,.i 1)]),u (.bd [z0,z0,z0,z0] [(0,1,.i 10)]),u (.bs [.l 4,.l 3,.l 2,.l 1,.l 0] 4),u (.ca N.sn 0 [] [.l 6,.l 0]),u (.st v5 l0 36 [])] [] (q [m v6,u (.bin .eql l0 (.i 0)),m l0,y 0 true (.fa v5 35),i 1 true l0,y 2 true (.ln l0),y 3 true (.bin .eql l0 (.i 5)),u (.pk l4 l0 (.b false)),m l0,y 0 true (.fa v5 29),y 1 true (.fa l0 0),i 2 true l0,y 3 true (.bin .eql l0 (.i 3)),u (.pk l4 l0 (.b false)),m l0,y 0 true (.fa v5 35),i 1 true l0,y 2 true (.ia l0 (.i 3) 7),y 3 true (.fa l0 5),i 4 true l0,y 5 true (.bin .eql l0 (.i 47)),u (.pk l6 l0 (.b false)),m l0,y 0 true (.fa v5 26),y 1 true (.fa l0 2),i 2 true l0,u (.pk l3 l0 (.b false)),m l0,y 0 true (.ld v5 36 true),y 1 true (.ca N.mj 0 [] [.l 0]),y 2 true (.ln l0),y 3 true (.bin .eql l0 (.i 0)),u (.pk l4 l0 (.b false)),x 0 l0] [] .ret)))))))),res:=[(0,none)]}
def jQ:Fn:= { av:=1,vars:=[0,2,3,4],body:=(q [w 1 (.al [z0,.nil,.nil,.nil,.nil] []),x 2 (.i 0)] [] (.seq (.ite [m v0,u (.ca N.iq 0 [] [.l 0]),u (.un .not l0)] [] 0 (q [u (.bd [z0,.nil,.nil,.nil,.nil] []),u (.st v1 l0 5 []),x 2 (.i 6)] [] .ret) .skip) (q [m v0,u (.ln l0),x 3 l0] [] (q [m v3,u (.mkt l0 (.int .i64 (0)) 1),m v3,u (.mkt l0 (.int .i64 (0)) 1),m v3,u (.mkt l0 (.bool false) 1),m v3,u (.mk l0 (z1) 1),u (.bd [z0,.nil,.nil,.nil,.nil] [(1,1,.l 6),(2,1,.l 4),(3,1,.l 2),(4,1,.l 0)]),u (.st v1 l0 5 []),x 2 (.i 0)] [(1,8),(3,8),(5,8)] .ret)))),res:=[(1,some (5,true)),(2,none)]}
def kR:Fn:= { av:=4,vars:=[0,1,2,3,4,5,6,7,8,9,10],body:=(q [w 4 (.bx v0 1),w 5 (.bx v1 5),w 6 (.bx v2 1),w 7 (.bx v3 1),w 8 (.al [z0,.nil,.nil,.nil,.nil] []),x 9 (.i 0)] [] (.seq (q [g v4,h 5 v5,g v6,u (.ca N.ff 0 [] [.l 2,.l 1,.l 0]),x 10 l0] [] (.ite [m v10,u (.bin .neq l0 (.i 0))] [] 0 (q [h 5 v5,m v10,u (.st v8 l1 5 []),x 9 l1] [] .ret) .skip)) (q [h 5 v5,u (.mf N.fy [.v 7,.v 4,.v 6]),u (.ca N.ft 0 [] [.l 1,.l 0]),u (.st v8 l0 5 []),x 9 (.i 0)] [] .ret))),res:=[(8,some (5,true)),(9,none)]}
def ew:Fn:= { av:=3,vars:=[0,1,2,4,5,6,7,8,9],body:=(q [w 3 (.bx v1 5),w 4 (.bx v2 1),w 5 (.al [z0,.nil,.nil,.nil,.nil] []),x 6 (.i 0)] [] (.seq (q [m v0,h 5 v3,g v4,u (.ca N.ff 0 [] [.l 2,.l 1,.l 0]),x 7 l0] [] (.ite [m v7,u (.bin .neq l0 (.i 0))] [] 0 (q [h 5 v3,m v7,u (.st v5 l1 5 []),x 6 l1] [] .ret) .skip)) (q [m v0,g v4,a 2 l1 l0,f 0 l0,g l0,x 8 l0] [] (.seq (.blk 0 (.ite [f 1 v3,g l0,g v4,a 1 l1 l0,g l0,u (.bin .neq l0 (.i 0)),m l0] [] 0 (q [h 5 v3,u (.st v5 l0 5 []),x 6 (.i 10)] [] .ret) (.ite [f 3 v3,g l0,g v4,a 1 l1 l0,g l0,m l0,y 0 false (.fa v3 4),i 1 false l0,i 2 false v4,y 3 false (.ia l1 l0 1),i 4 false l0,u (.pk l5 (.b true) l0),m l0] [] 0 (q [h 5 v3,u (.st v5 l0 5 []),x 6 (.i 51)] [] .ret) (.ite [m v8,u (.bin .geq l0 (.i 0)),m l0,y 0 true (.fa v3 1),i 1 true l0,e 2 true v8,y 3 true (.ia l1 l0 1),i 4 true l0,y 5 true (.bin .neq l0 (.i 2)),u (.pk l6 l0 (.b false)),m l0] [] 0 (q [h 5 v3,u (.st v5 l0 5 []),x 6 (.i 10)] [] .ret) .skip)))) (q [h 5 v3,u (.mf N.fh [.v 4]),u (.ca N.ft 0 [] [.l 1,.l 0]),u (.st v5 l0 5 []),x 6 (.i 0)] [] .ret))))),res:=[(5,some (5,true)),(6,none)]}
def kS:Fn:= { av:=3,vars:=[0,1,2,3,4,5,6,7],body:=(q [w 3 (.bx v0 1),w 4 (.bx v1 5),w 5 (.bx v2 1),w 6 (.al [z0,.nil,.nil,.nil,.nil] []),x 7 (.i 0)] [] (.seq (.blk 0 (.ite [g v3,h 5 v4,u (.ca N.ir 0 [] [.l 1,.l 0]),u (.un .not l0),m l0] [] 0 (q [h 5 v4,u (.st v6 l0 5 []),x 7 (.i 6)] [] .ret) (.ite [g v5,f 0 v4,g l0,u (.ca N.aU 0 [] [.l 2,.l 0,.i 2147483648]),u (.un .not l0),m l0] [] 0 (q [h 5 v4,u (.st v6 l0 5 []),x 7 (.i 8)] [] .ret) .skip))) (q [h 5 v4,u (.mf N.gl [.v 5,.v 3]),u (.ca N.ft 0 [] [.l 1,.l 0]),u (.st v6 l0 5 []),x 7 (.i 0)] [] .ret))),res:=[(6,some (5,true)),(7,none)]}
def MH:C:= (.its [u (.bin .lss v7 v6)] [] 0 .skip (.exit 0) (.seq (.blk 1 (q [a 4 v5 v7,h 4 l0,w 4 (.al [z0,z0,z0,z0] []),u (.st l0 l1 4 [])] [] (.reg [h 36 v2,h 4 v4,u (.ca N.qa 0 [] [.l 1,.l 0]),m l0,u (.ex l0 0),u (.ex l1 1),u (.st v2 l1 36 [])] []))) (.reg [u (.bin .add v7 (.i 1)),x 7 l0] [])))
def O6:C:= .loop true [0,1,4] K.MH
def sn:Fn:= { av:=2,vars:=[0,1,2,4,6,7,8,9],body:=(q [w 2 (.bx v0 36),w 3 (.al [.nil,.nil,z0,.nil,.nil,.nil,.nil,.nil,.nil,.nil,.nil,.nil,.nil,.nil,.nil,z0,.nil,z0,z0,.nil,.nil,.nil,.nil,.nil,z0,.nil,.nil,.nil,z1,z0,z0,z0,z0,.nil,.nil,.nil] [])] [] (.seq (q [x 5 v1,w 6 (.ln l0),x 7 (.i 0)] [] (.blk 0 K.O6)) (q [h 36 v2,u (.ca N.im 0 [] [.l 0]),u (.st v3 l0 36 [])] [] .ret))),res:=[(3,some (36,true))]}
def Ga:C:= (.its [u (.bin .lss v8 v7)] [] 0 .skip (.exit 0) (.seq (.blk 1 (q [m v8,a 1 v6 v8,g l0,x 4 l2,x 5 l1] [] (.ite [m v5,h 36 v1,u (.cw l1 0 [] [.l 0]),u (.un .not l0)] [] 0 (.reg [m v3,m v4,u (.bin .add l0 (.i 1)),u (.bs [.l 0] 1),u (.app l3 l0 true 1),x 3 l0] []) .skip))) (.reg [u (.bin .add v8 (.i 1)),x 8 l0] [])))
def Ho:C:= .loop true [0,2,4,5] K.Ga
def mj:Fn:= { av:=1,vars:=[0,1,2,3,4,5,6,7,8],body:=(q [w 1 (.bx v0 36),w 2 (.mv (.c (.nil)))] [] (q [w 3 (.nw 1)] [] (.seq (q [w 6 (.ca N.mr 2 [] []),w 7 (.ln l0),x 8 (.i 0)] [] (.blk 0 K.Ho)) (q [m v3,x 2 l0] [] .ret)))),res:=[(2,none)]}
def rD:C:= (.its [u (.bin .lss v9 v8)] [] 0 .skip (.exit 0) (.seq (.blk 1 (q [m v9,a 2 v7 v9,h 2 l0,w 3 (.al [z0,z0] []),x 2 l3,u (.st l1 l2 2 [])] [] (.ite [f 0 v3,g l0,m v0,u (.ln l0),u (.bin .sub l0 (.i 1)),u (.ca N.aU 0 [] [.l 3,.i (-1),.l 0]),u (.un .not l0),m l0,y 0 false (.fa v3 1),i 1 false l0,y 2 false (.ca N.aU 0 [] [.l 0,.i 0,.i 120]),y 3 false (.un .not l0),u (.pk l4 (.b true) l0),m l0,y 0 false (.fa v3 0),i 1 false l0,e 2 false v2,y 3 false (.bin .eql l1 l0),u (.pk l4 (.b true) l0)] [] 0 (q [x 1 (.b false)] [] .ret) .skip))) (.reg [u (.bin .add v9 (.i 1)),x 9 l0] [])))
def zg:C:= .loop true [1,2,3,4,5,6,10,11] K.rD
def mw:C:= (.seq (.ite [m v6,u (.bin .geq l0 (.i 0))] [] 0 .skip (.exit 4)) (.seq (.blk 5 (q [m v5,u (.bin .add l0 (.i 1)),x 5 l0] [] (.ite [m v5,m v0,u (.ln l0),u (.bin .gtr l2 l0)] [] 0 (q [x 1 (.b false)] [] .ret) .skip))) (.reg [m v0,m v6,a 2 l1 l0,f 0 l0,g l0,x 6 l0] [])))
def zh:C:= .loop true [1,2,3,4,7,8,9] K.mw
def rE:C:= (.its [u (.bin .lss v11 v10)] [] 0 .skip (.exit 2) (.seq (.blk 3 (q [m v11,x 4 l0] [] (q [x 5 (.i 0)] [] (q [m v4,x 6 l0] [] (.blk 4 K.zh))))) (.reg [u (.bin .add v11 (.i 1)),x 11 l0] [])))
def zi:C:= .loop true [1,2,3,4,5,6,7,8,9] K.rE
def iq:Fn:= { av:=1,vars:=[0,2,3,4,5,6,7,12,13,14,40,41],body:=(q [x 1 (.b false)] [] (.seq (.ite [m v0,u (.ln l0),u (.ca N.aU 0 [] [.l 0,.i 1,.i 24]),u (.un .not l0)] [] 0 (q [x 1 (.b false)] [] .ret) .skip) (.seq (q [x 7 v0,w 8 (.ln l0),x 9 (.i 0)] [] (.blk 0 K.zg)) (.seq (q [m v0,w 10 (.ln l0),x 11 (.i 0)] [] (.blk 2 K.zi)) (q [x 1 (.b true)] [] .ret))))),res:=[(1,none)]}
def ff:Fn:= { av:=3,vars:=[0,1,2,4,6],body:=(q [w 3 (.bx v1 5),x 4 (.i 0)] [] (.seq (.blk 0 (.ite [m v0,h 5 v3,u (.ca N.ir 0 [] [.l 1,.l 0]),u (.un .not l0),m l0] [] 0 (q [x 4 (.i 6)] [] .ret) (.ite [m v2,m v0,u (.ln l0),u (.bin .sub l0 (.i 1)),u (.ca N.aU 0 [] [.l 3,.i 0,.l 0]),u (.un .not l0),m l0] [] 0 (q [x 4 (.i 52)] [] .ret) .skip))) (q [x 4 (.i 0)] [] .ret))),res:=[(4,none)]}
def ft:Fn:= { av:=2,vars:=[0,1,2,4,5],body:=(q [w 2 (.bx v0 5),w 3 (.al [z0,.nil,.nil,.nil,.nil] [])] [] (q [w 4 (.al [z0,.nil,.nil,.nil,.nil] []),f 0 v2,g l0,f 1 v2,g l0,u (.ca N.ah 1 [] [.l 0]),f 2 v2,g l0,u (.ca N.ah 1 [] [.l 0]),f 3 v2,g l0,u (.ca N.bE 1 [] [.l 0]),f 4 v2,g l0,u (.ca N.bE 1 [] [.l 0]),u (.bd [z0,.nil,.nil,.nil,.nil] [(0,1,.l 12),(1,1,.l 9),(2,1,.l 6),(3,1,.l 3),(4,1,.l 0)]),u (.st (.l 15) l0 5 [])] [(0,6),(0,9),(0,12),(0,15),(2,6),(2,9),(2,12),(2,15),(7,1),(10,1),(10,6),(13,1),(13,6),(13,9)] (q [m v1,u (.cw l0 0 [] [.v 4])] [] (q [h 5 v4,u (.st v3 l0 5 [])] [] .ret)))),res:=[(3,some (5,true))]}
def fy:Fn:= { av:=4,vars:=[0,1,2,3],body:=(.seq (.ite [g v1] [] 0 (.reg [g v2,m v0,g v3,u (.ca N.kT 0 [] [.l 2,.l 1,.l 0])] []) .skip) (.reg [m v0,u (.nc l0),f 4 l0,g l0,g v3,g v1,a 1 l2 l1,u (.st l0 l1 1 [])] [])),res:=[]}
def gT:C:= (.its [u (.bin .lss v5 v4)] [] 0 .skip (.exit 0) (.seq (.blk 1 (q [m v5,x 3 l0] [] (.ite [m v3,m v2,u (.bin .eql l1 l0),m l0,e 0 false v0,e 1 false v3,e 2 false v2,y 3 false (.ca N.gn 0 [] [.l 2,.l 1,.l 0]),u (.pk l4 (.b true) l0),m l0,e 0 true v1,y 1 true (.nc l0),y 2 true (.fa l0 1),i 3 true l0,e 4 true v3,y 5 true (.ia l1 l0 1),i 6 true l0,y 7 true (.bin .neq l0 (.i 0)),u (.pk l8 l0 (.b false))] [] 0 (.reg [m v1,u (.nc l0),f 1 l0,g l0,m v3,m v1,u (.nc l0),f 2 l0,g l0,m v3,m v1,u (.nc l0),f 0 l0,g l0,a 1 l10 l9,u (.st l0 (.i 0) 1 []),a 1 l7 l6,u (.st l0 l3 1 [])] []) .skip))) (.reg [u (.bin .add v5 (.i 1)),x 5 l0] [])))
def Bq:C:= .loop true [3] K.gT
def kT:Fn:= { av:=3,vars:=[0,1,2,6,8,9],body:=(q [m v0,w 4 (.ln l0),x 5 (.i 0)] [] (.blk 0 K.Bq)),res:=[]}
def fh:Fn:= { av:=2,vars:=[0,1],body:=(.reg [m v0,u (.nc l0),f 1 l0,g l0,g v1,m v0,u (.nc l0),f 2 l0,g l0,g v1,m v0,u (.nc l0),f 0 l0,g l0,a 1 l10 l9,u (.st l0 (.i 1) 1 []),a 1 l7 l6,u (.st l0 l3 1 [])] [(9,16)]),res:=[]}
def my:C:= (.its [u (.bin .lss v10 v9)] [] 0 .skip (.exit 0) (.seq (.blk 1 (q [m v10,a 1 v8 v10,g l0,x 5 l2,x 6 l1] [] (q [m v0,m v5,a 2 l1 l0,f 0 l0,g l0,x 7 l0] [] (.blk 2 (.ite [m v6,u (.ca N.aU 0 [] [.l 0,.i 0,.i 2]),u (.un .not l0),m l0,y 0 false (.fa v2 2),i 1 false l0,e 2 false v5,y 3 false (.ia l1 l0 1),i 4 false l0,y 5 false (.fa v2 0),i 6 false l0,y 7 false (.ca N.aU 0 [] [.l 2,.i 0,.l 0]),y 8 false (.un .not l0),u (.pk l9 (.b true) l0),m l0] [] 0 (q [x 3 (.b false)] [] .ret) (.ite [m v6,u (.bin .eql l0 (.i 0)),m l0] [] 0 .skip (.ite [f 3 v2,g l0,m v5,a 1 l1 l0,g l0,m l0,y 0 false (.fa v2 4),i 1 false l0,e 2 false v5,y 3 false (.ia l1 l0 1),i 4 false l0,u (.pk l5 (.b true) l0),m l0,e 0 false v7,y 1 false (.bin .geq l0 (.i 0)),e 2 false l0,y 0 true (.fa v2 1),i 1 true l0,e 2 true v7,y 3 true (.ia l1 l0 1),i 4 true l0,y 5 true (.bin .neq l0 (.i 2)),y 9 false (.pk l6 l0 (.b false)),u (.pk l10 (.b true) l0),m l0] [] 0 (q [x 3 (.b false)] [] .ret) .skip))))))) (.reg [u (.bin .add v10 (.i 1)),x 10 l0] [])))
def zj:C:= .loop true [1,3,4,5,6,7] K.my
def ir:Fn:= { av:=2,vars:=[0,1,3,4,5,6,7,8,49,50,51],body:=(q [w 2 (.bx v1 5),x 3 (.b false)] [] (q [m v0,u (.ln l0),x 4 l0] [] (.seq (.ite [m v0,u (.ca N.iq 0 [] [.l 0]),u (.un .not l0),m l0,y 0 false (.fa v2 1),i 1 false l0,y 2 false (.ln l0),e 3 false v4,y 4 false (.bin .neq l1 l0),u (.pk l5 (.b true) l0),m l0,y 0 false (.fa v2 2),i 1 false l0,y 2 false (.ln l0),e 3 false v4,y 4 false (.bin .neq l1 l0),u (.pk l5 (.b true) l0),m l0,y 0 false (.fa v2 3),i 1 false l0,y 2 false (.ln l0),e 3 false v4,y 4 false (.bin .neq l1 l0),u (.pk l5 (.b true) l0),m l0,y 0 false (.fa v2 4),i 1 false l0,y 2 false (.ln l0),e 3 false v4,y 4 false (.bin .neq l1 l0),u (.pk l5 (.b true) l0),m l0,y 0 false (.fa v2 0),i 1 false l0,y 2 false (.ca N.aU 0 [] [.l 0,.i 0,.i 2147483648]),y 3 false (.un .not l0),u (.pk l4 (.b true) l0)] [] 0 (q [x 3 (.b false)] [] .ret) .skip) (.seq (q [f 1 v2,w 8 (.ld l0 1 false),w 9 (.ln l0),x 10 (.i 0)] [] (.blk 0 K.zj)) (q [x 3 (.b true)] [] .ret))))),res:=[(3,none)]}
def kC:C:= (.its [u (.bin .lss v8 v7)] [] 0 .skip (.exit 0) (.seq (.blk 1 (q [m v8,a 1 v6 v8,g l0,x 3 l2,x 4 l1] [] (q [m v0,u (.nc l0),f 2 l0,g l0,m v3,a 1 l1 l0,g l0,g v2,m v3,a 2 l1 l0,f 1 l0,g l0,u (.bin .add l5 l0),x 5 l0] [] (.ite [m v4,u (.bin .eql l0 (.i 1)),m l0,e 0 true v5,i 1 true v1,y 2 true (.bin .leq l1 l0),u (.pk l3 l0 (.b false))] [] 0 (.reg [m v0,u (.nc l0),f 1 l0,g l0,m v3,m v0,u (.nc l0),f 2 l0,g l0,m v3,m v5,a 1 l7 l6,u (.st l0 (.i 2) 1 []),a 1 l4 l3,u (.st l0 l3 1 [])] []) .skip)))) (.reg [u (.bin .add v8 (.i 1)),x 8 l0] [])))
def xA:C:= .loop true [3,4,5] K.kC
def gl:Fn:= { av:=3,vars:=[0,1,2,4,5,6,14,15,16],body:=(q [m v0,g v1,u (.nc l1),f 0 l0,u (.st l0 l2 1 [])] [] (q [m v0,u (.nc l0),f 1 l0,w 6 (.ld l0 1 false),w 7 (.ln l0),x 8 (.i 0)] [] (.blk 0 K.xA))),res:=[]}
def qa:Fn:= { av:=2,vars:=[0,1,2,3,4,5,6,7,8,9],body:=(q [w 2 (.bx v0 36),w 3 (.bx v1 4),w 4 (.al [.nil,.nil,z0,.nil,.nil,.nil,.nil,.nil,.nil,.nil,.nil,.nil,.nil,.nil,.nil,z0,.nil,z0,z0,.nil,.nil,.nil,.nil,.nil,z0,.nil,.nil,.nil,z1,z0,z0,z0,z0,.nil,.nil,.nil] []),x 5 (.i 0)] [] (.seq (.ite [f 35 v2,g l0,u (.ln l0),u (.bin .geq l0 (.i 200))] [] 0 (q [h 36 v2,u (.st v4 l0 36 []),x 5 (.i 2)] [] .ret) .skip) (.seq (.ite [h 36 v2,u (.ca N.oc 0 [] [.l 0]),u (.un .not l0)] [] 0 (q [h 36 v2,u (.st v4 l0 36 []),x 5 (.i 6)] [] .ret) .skip) (q [h 36 v2,u (.ca N.im 1 [] [.l 0]),u (.bd [.nil,.nil,z0,.nil,.nil,.nil,.nil,.nil,.nil,.nil,.nil,.nil,.nil,.nil,.nil,z0,.nil,z0,z0,.nil,.nil,.nil,.nil,.nil,z0,.nil,.nil,.nil,z1,z0,z0,z0,z0,.nil,.nil,.nil,.nil] [(0,36,.l 0)]),u (.bx l0 37),x 6 l0] [] (q [x 7 (.i 55)] [] (.seq (q [f 0 v3,g l0,u (.ca N.qb 0 [] [.l 0]),x 8 l0] [] (.ite [m v8,u (.fnz true l0)] [] 0 (.reg [m v8,m v6,h 4 v3,u (.cw l2 0 [] [.l 1,.l 0]),x 7 l0] []) .skip)) (q [m v6,u (.nc l0),f 0 l0,h 36 l0,w 9 (.al [.nil,.nil,z0,.nil,.nil,.nil,.nil,.nil,.nil,.nil,.nil,.nil,.nil,.nil,.nil,z0,.nil,z0,z0,.nil,.nil,.nil,.nil,.nil,z0,.nil,.nil,.nil,z1,z0,z0,z0,z0,.nil,.nil,.nil] [(35,7)]),u (.st l0 l1 36 [])] [] (.seq (.ite [m v7,u (.bin .neq l0 (.i 0))] [] 0 (q [h 36 v2,u (.ca N.im 1 [] [.l 0]),u (.st v9 l0 36 [])] [] (.ite [m v7,u (.bin .eql l0 (.i 46))] [] 0 (.reg [m v6,u (.nc l0),f 0 l0,f 34 l0,g l0,f 34 v9,u (.st l0 l1 1 [])] []) .skip)) .skip) (q [f 35 v9,g l0,h 4 v3,f 0 v2,f 2 l0,g l0,m v7,m v6,u (.nc l0),f 36 l0,g l0,u (.bd [z0,z0,z0,z0,z0,z0,.nil] [(0,4,.l 8),(4,1,.l 5),(5,1,.l 4),(6,1,.l 0)]),u (.bs [.l 0] 7),u (.app l11 l0 true 7),f 35 v9,u (.st l0 l1 1 [])] [(1,13)] (q [h 36 v9,m v7,u (.st v4 l1 36 []),x 5 l1] [] .ret)))))))))),res:=[(4,some (36,true)),(5,none)]}
def mr:Fn:= { av:=0,vars:=[0],body:=(q [w 0 (.mv (.c (.nil)))] [] (q [u (.bsr [.c (.fn N.iZ []),.c (.fn N.i4 []),.c (.fn N.mu []),.c (.fn N.i5 []),.c (.fn N.i6 []),.c (.fn N.i7 []),.c (.fn N.i9 []),.c (.fn N.ja [])] 1),x 0 l0] [] .ret)),res:=[(0,none)]}
def bE:Fn:= { av:=1,vars:=[0,2],body:=(q [w 1 (.mv (.c (.nil)))] [] (.itk [m v0,u (.eqk (.sl) false l0 (.c (.nil)))] [] 0 (q [w 1 (.nw 1)] [] .ret) .skip (q [u (.bsr [] 1),m v0,u (.app l1 l0 false 1),x 1 l0] [] .ret))),res:=[(1,none)]}
def iL:C:= (.seq (.ite [m v4,u (.bin .geq l0 (.i 0))] [] 0 .skip (.exit 0)) (.seq (.blk 1 (.ite [m v4,m v2,u (.bin .eql l1 l0)] [] 0 (q [x 3 (.b true)] [] .ret) .skip)) (.reg [m v0,m v4,a 2 l1 l0,f 0 l0,g l0,x 4 l0] [])))
def xB:C:= .loop true [1,3] K.iL
def gn:Fn:= { av:=3,vars:=[0,1,2,6,7],body:=(q [x 3 (.b false)] [] (.seq (q [m v0,m v1,a 2 l1 l0,f 0 l0,g l0,x 4 l0] [] (.blk 0 K.xB)) (q [x 3 (.b false)] [] .ret))),res:=[(3,none)]}
def qb:Fn:= { av:=1,vars:=[2],body:= .fail,res:=[(0,none)],prim:=[6,N.eJ,N.eL,N.eM,N.eO,N.eQ,N.eR,N.dY,N.fR,N.dZ,N.eb,N.eT,N.eU,N.eV]}
def iZ:Fn:= { av:=1,vars:=[0,1,2],body:=(q [w 1 (.bx v0 36),x 2 (.b false)] [] (q [h 36 v1,f 23 v1,h 1 l0,u (.ca N.fQ 0 [] [.l 2,.l 0]),x 2 l0] [] .ret)),res:=[(2,none)]}
def Br:C:= (.its [u (.bin .lss v9 v8)] [] 0 .skip (.exit 0) (.seq (.blk 1 (q [m v9,a 3 v7 v9,h 3 l0,w 6 (.al [z0,z0,z0] []),x 5 l3,u (.st l1 l2 3 [])] [] (.ite [h 1 v3,m v5,f 0 v2,f 2 l0,g l0,u (.ca N.dA 0 [] [.l 4,.l 3,.l 0]),f 0 v6,g l0,u (.ca N.aO 0 [] [.l 2,.l 0]),u (.un .not l0)] [(7,0)] 0 (q [x 4 (.b false)] [] .ret) .skip))) (.reg [u (.bin .add v9 (.i 1)),x 9 l0] [])))
def CD:C:= .loop true [0,1,4,5,6] K.Br
def fQ:Fn:= { av:=2,vars:=[0,1,2,3,4,5,6,9,10,11],body:=(q [w 2 (.bx v0 36),w 3 (.bx v1 1),x 4 (.b false)] [] (.seq (q [f 0 v2,f 3 l0,w 7 (.ld l0 1 false),w 8 (.ln l0),x 9 (.i 0)] [] (.blk 0 K.CD)) (q [f 0 v3,g l0,u (.mf N.fA [.v 2]),u (.ca N.ax 0 [] [.l 1,.l 0]),x 4 l0] [] .ret))),res:=[(4,none)]}
def i4:Fn:= { av:=1,vars:=[0,1,2],body:=(q [w 1 (.bx v0 36),x 2 (.b false)] [] (q [f 33 v1,f 0 l0,g l0,u (.ln l0),u (.bin .eql l0 (.i 0)),m l0,y 0 false (.ld v1 36 true),y 1 false (.fa v1 33),y 2 false (.ld l0 1 true),y 3 false (.ca N.fQ 0 [] [.l 2,.l 0]),u (.pk l4 (.b true) l0),x 2 l0] [] .ret)),res:=[(2,none)]}
def mu:Fn:= { av:=1,vars:=[0,1,2],body:=(q [w 1 (.bx v0 36),x 2 (.b false)] [] (.seq (.ite [f 29 v1,f 0 l0,g l0,u (.bin .neq l0 (.i 3)),m l0,y 0 true (.fa v1 29),y 1 true (.fa l0 0),i 2 true l0,y 3 true (.bin .neq l0 (.i 4)),u (.pk l4 l0 (.b false)),m l0,y 0 false (.fa v1 29),y 1 false (.fa l0 3),i 2 false l0,y 3 false (.fa v1 0),y 4 false (.fa l0 2),i 5 false l0,y 6 false (.bin .neq l3 l0),u (.pk l7 (.b true) l0)] [] 0 (q [x 2 (.b true)] [] .ret) .skip) (q [h 36 v1,u (.ca N.jb 0 [] [.l 0]),u (.ln l0),u (.bin .eql l0 (.i 0)),m l0,y 0 true (.fa v1 33),y 1 true (.ld l0 1 true),y 2 true (.fa v1 16),y 3 true (.fa l0 0),i 4 true l0,y 5 true (.ca N.mG 0 [] [.l 3,.l 0]),u (.pk l6 l0 (.b false)),x 2 l0] [] .ret))),res:=[(2,none)]}
def i5:Fn:= { av:=1,vars:=[0,1,2],body:=(q [w 1 (.bx v0 36),x 2 (.b false)] [] (q [f 26 v1,f 2 l0,g l0,u (.un .not l0),m l0,y 0 false (.ld v1 36 true),y 1 false (.ca N.kd 0 [] [.l 0]),y 2 false (.un .not l0),u (.pk l3 (.b true) l0),x 2 l0] [] .ret)),res:=[(2,none)]}
def kd:Fn:= { av:=1,vars:=[0,1,2],body:=(q [w 1 (.bx v0 36),x 2 (.b false)] [] (q [f 0 v1,f 3 l0,g l0,u (.mf N.gQ [.v 1]),u (.ca N.aE 0 [] [.l 1,.l 0]),x 2 l0] [] .ret)),res:=[(2,none)]}
def i6:Fn:= { av:=1,vars:=[0,1,2,3],body:=(q [w 1 (.bx v0 36),x 2 (.b false)] [] (q [f 23 v1,h 1 l0,f 16 v1,f 0 l0,g l0,f 0 v1,f 2 l0,g l0,u (.ca N.lL 0 [] [.l 6,.l 3,.l 0]),w 3 (.al [z0,z0] []),u (.st l0 l1 2 [])] [] (q [h 36 v1,u (.ca N.jb 0 [] [.l 0]),u (.ln l0),f 0 v3,g l0,f 1 v3,g l0,u (.ca N.aU 0 [] [.l 4,.l 2,.l 0]),x 2 l0] [(4,0),(6,0)] .ret))),res:=[(2,none)]}
def i7:Fn:= { av:=1,vars:=[0,1,2],body:=(q [w 1 (.bx v0 36),x 2 (.b false)] [] (q [f 35 v1,g l0,u (.mf N.gp [.v 1]),u (.ca N.aH 0 [] [.l 1,.l 0]),u (.un .not l0),x 2 l0] [] .ret)),res:=[(2,none)]}
def CE:C:= (.its [u (.bin .lss v11 v10)] [] 0 .skip (.exit 2) (.seq (.blk 3 (q [a 1 v9 v11,g l0,x 6 l0] [] (.ite [f 9 v1,h 2 l0,h 4 v4,m v6,u (.ca N.mi 0 [] [.l 2,.l 1,.l 0]),u (.un .not l0),m l0,y 0 true (.ld v1 36 true),e 1 true v6,y 2 true (.ca N.kp 0 [] [.l 1,.i 2,.l 0]),y 3 true (.un .not l0),u (.pk l4 l0 (.b false))] [] 0 (q [x 2 (.b false)] [] .ret) .skip))) (.reg [u (.bin .add v11 (.i 1)),x 11 l0] [])))
def DU:C:= .loop true [0,2,3,5,6] K.CE
def CF:C:= (.its [u (.bin .lss v8 v7)] [] 0 .skip (.exit 0) (.seq (.blk 1 (q [m v8,x 5 l0] [] (q [f 23 v1,h 1 l0,m v5,f 0 v1,f 2 l0,g l0,w 9 (.ca N.dA 0 [] [.l 4,.l 3,.l 0]),w 10 (.ln l0),x 11 (.i 0)] [] (.blk 2 K.DU)))) (.reg [u (.bin .add v8 (.i 1)),x 8 l0] [])))
def DV:C:= .loop true [0,2,3,5,6,9,10,11] K.CF
def i9:Fn:= { av:=1,vars:=[0,1,2,3,4,5,7,47,48,57,58,59],body:=(q [w 1 (.bx v0 36),x 2 (.b false)] [] (q [f 35 v1,g l0,u (.ln l0),x 3 l0] [] (.seq (.ite [m v3,u (.bin .eql l0 (.i 0)),m l0,y 0 false (.fa v1 35),i 1 false l0,e 2 false v3,y 3 false (.bin .sub l0 (.i 1)),y 4 false (.ia l2 l0 7),y 5 false (.fa l0 0),y 6 false (.fa l0 0),i 7 false l0,y 8 false (.bin .neq l0 (.i 12)),u (.pk l9 (.b true) l0),m l0,y 0 false (.fa v1 35),i 1 false l0,e 2 false v3,y 3 false (.bin .sub l0 (.i 1)),y 4 false (.ia l2 l0 7),y 5 false (.fa l0 5),i 6 false l0,y 7 false (.bin .neq l0 (.i 0)),u (.pk l8 (.b true) l0),m l0,y 0 false (.fa v1 24),y 1 false (.fa l0 1),i 2 false l0,y 3 false (.ln l0),y 4 false (.bin .gtr l0 (.i 0)),u (.pk l5 (.b true) l0)] [] 0 (q [x 2 (.b true)] [] .ret) .skip) (q [f 12 v1,h 4 l0,w 4 (.al [.nil,.nil,.nil,z0] []),u (.st l0 l1 4 [])] [] (q [f 1 v4,u (.st l0 (.c (.nil)) 1 [])] [] (.seq (q [f 0 v1,f 3 l0,g l0,w 7 (.ln l0),x 8 (.i 0)] [] (.blk 0 K.DV)) (q [x 2 (.b true)] [] .ret))))))),res:=[(2,none)]}
def ja:Fn:= { av:=1,vars:=[0,1,2],body:=(q [w 1 (.bx v0 36),x 2 (.b false)] [] (q [f 34 v1,g l0,u (.ca N.ke 0 [] [.l 0]),m l0,y 0 true (.fa v1 26),y 1 true (.ld l0 3 true),y 2 true (.ca N.gY 0 [] [.l 0]),u (.pk l3 l0 (.b false)),m l0,y 0 true (.fa v1 16),y 1 true (.ld l0 3 true),y 2 true (.fa v1 29),y 3 true (.ld l0 4 true),y 4 true (.ca N.fX 0 [] [.l 2,.l 0]),u (.pk l5 l0 (.b false)),x 2 l0] [] .ret)),res:=[(2,none)]}
def DW:C:= (.its [u (.bin .lss v6 v5)] [] 0 .skip (.exit 0) (.seq (.blk 1 (q [m v6,a 9 v4 v6,h 9 l0,w 3 (.al [z0,z0,z0,z0,z0,z1,z1,z0,z0] []),x 2 l3,u (.st l1 l2 9 [])] [] (.ite [h 9 v3,u (.ca N.kf 0 [] [.l 0]),u (.un .not l0),m l0,e 0 false v2,y 1 false (.bin .gtr l0 (.i 0)),e 2 false l0,e 0 true v0,e 1 true v2,y 2 true (.bin .sub l0 (.i 1)),y 3 true (.ia l2 l0 9),y 4 true (.ld l0 9 true),y 5 true (.fa v3 0),i 6 true l0,y 7 true (.fa v3 1),i 8 true l0,y 9 true (.bd [z0,z0] [(0,1,.l 2),(1,1,.l 0)]),y 10 true (.ca N.gR 0 [] [.l 5,.l 0]),y 11 true (.bin .geq l0 (.i 0)),y 15 false (.pk (.l 12) l0 (.b false)),u (.pk (.l 16) (.b true) l0)] [] 0 (q [x 1 (.b false)] [] .ret) .skip))) (.reg [u (.bin .add v6 (.i 1)),x 6 l0] [])))
def Gb:C:= .loop true [1,2,3] K.DW
def ke:Fn:= { av:=1,vars:=[0,2,3,4,8,9,10],body:=(q [x 1 (.b false)] [] (.seq (.ite [m v0,u (.ln l0),u (.bin .gtr l0 (.i 64))] [] 0 (q [x 1 (.b false)] [] .ret) .skip) (.seq (q [x 4 v0,w 5 (.ln l0),x 6 (.i 0)] [] (.blk 0 K.Gb)) (q [x 1 (.b true)] [] .ret)))),res:=[(1,none)]}
def dY:Fn:= { av:=2,vars:=[0,1,2,3,4],body:=(q [w 2 (.bx v0 1),w 3 (.bx v1 4),x 4 (.i 0)] [] (.seq (.ite [f 1 v3,g l0,g v2,u (.nc l0),f 0 l0,f 26 l0,f 0 l0,g l0,u (.ln l0),u (.bin .sub l0 (.i 1)),u (.ca N.aU 0 [] [.l 8,.i 0,.l 0]),u (.un .not l0)] [] 0 (q [x 4 (.i 47)] [] .ret) .skip) (.seq (.ite [g v2,u (.nc l0),f 0 l0,f 0 l0,f 3 l0,g l0,u (.mf N.eE [.v 2,.v 3]),u (.ca N.aE 0 [] [.l 1,.l 0])] [] 0 (q [x 4 (.i 49)] [] .ret) .skip) (.seq (q [g v2,g v2,u (.nc l0),f 0 l0,f 26 l0,h 3 l0,f 1 v3,g l0,u (.ca N.pY 0 [] [.l 2,.l 0]),m l0,u (.ex l0 0),u (.ex l1 1),u (.nc l11),f 0 l0,f 26 l0,u (.st l0 l4 3 []),x 4 l4] [(0,9)] (.ite [m v4,u (.bin .neq l0 (.i 0))] [] 0 (q [m v4,x 4 l0] [] .ret) .skip)) (.seq (q [g v2,g v2,u (.nc l0),f 0 l0,f 26 l0,h 3 l0,f 1 v3,g l0,u (.ca N.lQ 0 [] [.l 2,.l 0]),m l0,u (.ex l0 0),u (.ex l1 1),u (.nc l11),f 0 l0,f 26 l0,u (.st l0 l4 3 []),x 4 l4] [(0,9)] (.ite [m v4,u (.bin .neq l0 (.i 0))] [] 0 (q [m v4,x 4 l0] [] .ret) .skip)) (.seq (.ite [g v2,u (.nc l0),f 0 l0,f 26 l0,f 1 l0,g l0,u (.ca N.aq 0 [] [.l 0,.c (.fn N.eG [])])] [] 0 (q [x 4 (.i 0)] [] .ret) .skip) (.seq (q [g v2,g v2,u (.nc l0),f 0 l0,f 26 l0,h 3 l0,u (.ca N.pZ 0 [] [.l 0]),m l0,u (.ex l0 0),u (.ex l1 1),u (.nc l9),f 0 l0,f 26 l0,u (.st l0 l4 3 []),x 4 l4] [(0,7)] (.ite [m v4,u (.bin .neq l0 (.i 0))] [] 0 (q [m v4,x 4 l0] [] .ret) .skip)) (q [g v2,g v2,u (.nc l0),f 0 l0,f 9 l0,h 2 l0,g v2,u (.nc l0),f 0 l0,f 23 l0,h 1 l0,g v2,u (.nc l0),f 0 l0,f 26 l0,f 0 l0,g l0,g v2,u (.ca N.dv 0 [] [.l 0]),u (.ca N.p7 0 [] [.l 13,.l 8,.l 2,.l 0]),m l0,u (.ex l0 0),u (.ex l1 1),u (.nc (.l 22)),f 0 l0,f 33 l0,u (.st l0 l4 1 []),x 4 l4] [(0,19),(0,20),(1,19),(5,19),(6,19),(10,19),(11,19),(16,19)] (q [m v4,x 4 l0] [] .ret))))))))),res:=[(4,none)]}
end Go.Ev.K
namespace Go.Ev
class iG [Lib]:Prop where
 pK:Lib.fs N.dX=some K.dX
 DD:Lib.fs N.kQ=some K.kQ
 xC:Lib.fs N.jQ=some K.jQ
 xD:Lib.fs N.kR=some K.kR
 vC:Lib.fs N.ew=some K.ew
 xE:Lib.fs N.kS=some K.kS
 Jb:Lib.fs N.sn=some K.sn
 Bt:Lib.fs N.mj=some K.mj
 vD:Lib.fs N.iq=some K.iq
 rF:Lib.fs N.ff=some K.ff
 qc:Lib.fs N.ft=some K.ft
 te:Lib.fs N.fy=some K.fy
 xF:Lib.fs N.kT=some K.kT
 rG:Lib.fs N.fh=some K.fh
 vE:Lib.fs N.ir=some K.ir
 tn:Lib.fs N.gl=some K.gl
 Gc:Lib.fs N.qa=some K.qa
 Bu:Lib.fs N.mr=some K.mr
 jR:Lib.fs N.bE=some K.bE
 tq:Lib.fs N.gn=some K.gn
 Gd:Lib.fs N.qb=some K.qb
 xG:Lib.fs N.iZ=some K.iZ
 vO:Lib.fs N.fQ=some K.fQ
 xH:Lib.fs N.i4=some K.i4
 Bv:Lib.fs N.mu=some K.mu
 xI:Lib.fs N.i5=some K.i5
 zk:Lib.fs N.kd=some K.kd
 xJ:Lib.fs N.i6=some K.i6
 xK:Lib.fs N.i7=some K.i7
 xL:Lib.fs N.i9=some K.i9
 xM:Lib.fs N.ja=some K.ja
 zm:Lib.fs N.ke=some K.ke
 uh:Lib.fs N.dY=some K.dY
namespace K
variable [Lib] [iG]
theorem pK:Lib.fs N.dX=some K.dX:=iG.pK
theorem DD:Lib.fs N.kQ=some K.kQ:=iG.DD
theorem xC:Lib.fs N.jQ=some K.jQ:=iG.xC
theorem xD:Lib.fs N.kR=some K.kR:=iG.xD
theorem vC:Lib.fs N.ew=some K.ew:=iG.vC
theorem xE:Lib.fs N.kS=some K.kS:=iG.xE
theorem Jb:Lib.fs N.sn=some K.sn:=iG.Jb
theorem Bt:Lib.fs N.mj=some K.mj:=iG.Bt
theorem vD:Lib.fs N.iq=some K.iq:=iG.vD
theorem rF:Lib.fs N.ff=some K.ff:=iG.rF
theorem qc:Lib.fs N.ft=some K.ft:=iG.qc
theorem te:Lib.fs N.fy=some K.fy:=iG.te
theorem xF:Lib.fs N.kT=some K.kT:=iG.xF
theorem rG:Lib.fs N.fh=some K.fh:=iG.rG
theorem vE:Lib.fs N.ir=some K.ir:=iG.vE
theorem tn:Lib.fs N.gl=some K.gl:=iG.tn
theorem Gc:Lib.fs N.qa=some K.qa:=iG.Gc
theorem Bu:Lib.fs N.mr=some K.mr:=iG.Bu
theorem jR:Lib.fs N.bE=some K.bE:=iG.jR
theorem tq:Lib.fs N.gn=some K.gn:=iG.tq
theorem Gd:Lib.fs N.qb=some K.qb:=iG.Gd
theorem xG:Lib.fs N.iZ=some K.iZ:=iG.xG
theorem vO:Lib.fs N.fQ=some K.fQ:=iG.vO
theorem xH:Lib.fs N.i4=some K.i4:=iG.xH
theorem Bv:Lib.fs N.mu=some K.mu:=iG.Bv
theorem xI:Lib.fs N.i5=some K.i5:=iG.xI
theorem zk:Lib.fs N.kd=some K.kd:=iG.zk
theorem xJ:Lib.fs N.i6=some K.i6:=iG.xJ
theorem xK:Lib.fs N.i7=some K.i7:=iG.xK
theorem xL:Lib.fs N.i9=some K.i9:=iG.xL
theorem xM:Lib.fs N.ja=some K.ja:=iG.xM
theorem zm:Lib.fs N.ke=some K.ke:=iG.zm
theorem uh:Lib.fs N.dY=some K.dY:=iG.uh
end K
end Go.Ev
namespace Go.Ev.K
open Go.Ev
def fR:Fn:= { av:=2,vars:=[0,1,3,4],body:=(q [w 2 (.bx v1 4),x 3 (.i 0)] [] (q [m v0,m v0,u (.nc l0),f 0 l0,f 16 l0,h 3 l0,m v0,u (.nc l0),f 0 l0,f 29 l0,h 4 l0,m v0,u (.nc l0),f 0 l0,f 26 l0,h 3 l0,m v0,u (.nc l0),f 0 l0,f 33 l0,h 1 l0,f 1 v2,g l0,m v0,u (.ca N.dv 0 [] [.l 0]),u (.ca N.nU 0 [] [.l 19,.l 14,.l 9,.l 4,.l 2,.l 0]),m l0,u (.ex l0 0),u (.ex l1 1),u (.nc (.l 28)),f 0 l0,f 29 l0,u (.st l0 l4 4 []),x 3 l4] [(5,25),(10,25),(15,25),(20,25),(22,25)] (q [m v3,x 3 l0] [] .ret))),res:=[(3,none)]}
def dZ:Fn:= { av:=2,vars:=[0,1,3,4],body:=(q [w 2 (.bx v1 4),x 3 (.i 0)] [] (q [m v0,m v0,u (.nc l0),f 0 l0,f 16 l0,h 3 l0,m v0,u (.nc l0),f 0 l0,f 29 l0,h 4 l0,m v0,u (.nc l0),f 0 l0,f 26 l0,h 3 l0,m v0,u (.nc l0),f 0 l0,f 33 l0,h 1 l0,f 1 v2,g l0,m v0,u (.ca N.dv 0 [] [.l 0]),u (.ca N.jX 0 [] [.l 19,.l 14,.l 9,.l 4,.l 2,.l 0]),m l0,u (.ex l0 0),u (.ex l1 1),u (.nc (.l 28)),f 0 l0,f 29 l0,u (.st l0 l4 4 []),x 3 l4] [(5,25),(10,25),(15,25),(20,25),(22,25)] (q [m v3,x 3 l0] [] .ret))),res:=[(3,none)]}
def eb:Fn:= { av:=2,vars:=[0,1,3,4],body:=(q [w 2 (.bx v1 4),x 3 (.i 0)] [] (q [m v0,m v0,u (.nc l0),f 0 l0,f 16 l0,h 3 l0,m v0,u (.nc l0),f 0 l0,f 29 l0,h 4 l0,m v0,u (.nc l0),f 0 l0,f 26 l0,h 3 l0,m v0,u (.nc l0),f 0 l0,f 33 l0,h 1 l0,m v0,u (.ca N.dv 0 [] [.l 0]),f 2 v2,g l0,u (.bin .neq l0 (.i 0)),u (.ca N.lJ 0 [] [.l 20,.l 15,.l 10,.l 5,.l 3,.l 0]),m l0,u (.ex l0 0),u (.ex l1 1),u (.nc (.l 29)),f 0 l0,f 29 l0,u (.st l0 l4 4 []),x 3 l4] [(5,23),(10,23),(15,23),(20,23),(24,0)] (q [m v3,x 3 l0] [] .ret))),res:=[(3,none)]}
def fA:Fn:= { av:=2,vars:=[0,1,2,3],body:=(q [w 2 (.bx v0 2),x 3 (.b false)] [] (q [f 0 v2,g l0,f 0 v1,f 4 l0,g l0,u (.ca N.bw 0 [] [.l 3,.l 0]),x 3 l0] [] .ret)),res:=[(3,none)]}
def jb:Fn:= { av:=1,vars:=[0,1,2],body:=(q [w 1 (.bx v0 36),w 2 (.mv (.c (.nil)))] [] (q [f 0 v1,f 3 l0,g l0,u (.ln l0),u (.mf N.gS [.v 1]),u (.ca N.dj 0 [] [.l 1,.l 0]),x 2 l0] [] .ret)),res:=[(2,none)]}
def gQ:Fn:= { av:=2,vars:=[0,1,2,3],body:=(q [w 2 (.bx v0 3),x 3 (.b false)] [] (q [f 1 v2,g l0,u (.bin .geq l0 (.i 0)),m l0,y 0 true (.fa v1 26),y 1 true (.fa l0 0),i 2 true l0,y 3 true (.fa v2 1),i 4 true l0,y 5 true (.ca N.aO 0 [] [.l 2,.l 0]),u (.pk l6 l0 (.b false)),x 3 l0] [] .ret)),res:=[(3,none)]}
def aH:Fn:= { av:=2,vars:=[0,1,4],body:=(q [x 2 (.b false)] [] (q [m v0,m v1,u (.ca N.aM 0 [] [.l 1,.l 0]),u (.bin .geq l0 (.i 0)),x 2 l0] [] .ret)),res:=[(2,none)]}
def gp:Fn:= { av:=2,vars:=[0,1,2,3],body:=(q [w 2 (.bx v0 7),x 3 (.b false)] [] (q [f 0 v2,f 0 l0,g l0,u (.bin .eql l0 (.i 6)),m l0,y 0 true (.fa v2 5),i 1 true l0,y 2 true (.bin .eql l0 (.i 0)),u (.pk l3 l0 (.b false)),m l0,y 0 true (.ld v1 36 true),y 1 true (.fa v2 0),y 2 true (.fa l0 1),i 3 true l0,y 4 true (.ca N.kp 0 [] [.l 3,.i 1,.l 0]),y 5 true (.un .not l0),u (.pk l6 l0 (.b false)),x 3 l0] [] .ret)),res:=[(3,none)]}
def kp:Fn:= { av:=3,vars:=[0,1,2,3,4,5,6],body:= .fail,res:=[(6,none)]}
def kf:Fn:= { av:=1,vars:=[0,1,2,4,13,14],body:= .fail,res:=[(2,none)]}
def gR:Fn:= { av:=2,vars:=[0,1,2,3,4],body:= .fail,res:=[(4,none)]}
def eE:Fn:= { av:=3,vars:=[0,1,2,3,4],body:=(q [w 3 (.bx v0 3),x 4 (.b false)] [] (q [f 1 v3,g l0,g v1,u (.nc l0),f 0 l0,f 26 l0,f 0 l0,g l0,f 1 v2,g l0,a 1 l2 l0,g l0,u (.bin .eql l10 l0),x 4 l0] [] .ret)),res:=[(4,none)]}
def eG:Fn:= { av:=1,vars:=[0,2],body:=(q [x 1 (.b false)] [] (q [m v0,u (.bin .neq l0 (.i 2)),x 1 l0] [] .ret)),res:=[(1,none)]}
def gS:Fn:= { av:=2,vars:=[0,1,3],body:=(q [x 2 (.b false)] [] (q [f 16 v1,f 0 l0,g l0,f 0 v1,f 3 l0,g l0,m v0,a 3 l1 l0,f 0 l0,g l0,u (.ca N.aO 0 [] [.l 7,.l 0]),x 2 l0] [] .ret)),res:=[(2,none)]}
def jc:C:= (.its [u (.bin .lss v5 v4)] [] 0 .skip (.exit 0) (.seq (.blk 1 (q [m v5,x 3 l0] [] (.ite [m v1,m v0,m v3,a 7 l1 l0,h 7 l0,u (.cw l4 0 [] [.l 0])] [] 0 (q [m v3,x 2 l0] [] .ret) .skip))) (.reg [u (.bin .add v5 (.i 1)),x 5 l0] [])))
def jk:C:= .loop true [2,3] K.jc
def aM:Fn:= { av:=2,vars:=[0,1,4,5,7,8],body:=(q [x 2 (.i 0)] [] (.seq (q [m v0,w 4 (.ln l0),x 5 (.i 0)] [] (.blk 0 K.jk)) (q [w 2 (.mv (.i (-1)))] [] .ret))),res:=[(2,none)]}
end Go.Ev.K
namespace Go.Ev
class pL [Lib]:Prop where
 xN:Lib.fs N.fR=some K.fR
 ui:Lib.fs N.dZ=some K.dZ
 uj:Lib.fs N.eb=some K.eb
 sB:Lib.fs N.fA=some K.fA
 zn:Lib.fs N.jb=some K.jb
 vP:Lib.fs N.gQ=some K.gQ
 dJ:Lib.fs N.aH=some K.aH
 uk:Lib.fs N.gp=some K.gp
 Bw:Lib.fs N.kp=some K.kp
 zo:Lib.fs N.kf=some K.kf
 vQ:Lib.fs N.gR=some K.gR
 rH:Lib.fs N.eE=some K.eE
 rI:Lib.fs N.eG=some K.eG
 vR:Lib.fs N.gS=some K.gS
 en:Lib.fs N.aM=some K.aM
namespace K
variable [Lib] [pL]
theorem xN:Lib.fs N.fR=some K.fR:=pL.xN
theorem ui:Lib.fs N.dZ=some K.dZ:=pL.ui
theorem uj:Lib.fs N.eb=some K.eb:=pL.uj
theorem sB:Lib.fs N.fA=some K.fA:=pL.sB
theorem zn:Lib.fs N.jb=some K.jb:=pL.zn
theorem vP:Lib.fs N.gQ=some K.gQ:=pL.vP
theorem dJ:Lib.fs N.aH=some K.aH:=pL.dJ
theorem uk:Lib.fs N.gp=some K.gp:=pL.uk
theorem Bw:Lib.fs N.kp=some K.kp:=pL.Bw
theorem zo:Lib.fs N.kf=some K.kf:=pL.zo
theorem vQ:Lib.fs N.gR=some K.gR:=pL.vQ
theorem rH:Lib.fs N.eE=some K.eE:=pL.rH
theorem rI:Lib.fs N.eG=some K.eG:=pL.rI
theorem vR:Lib.fs N.gS=some K.gS:=pL.vR
theorem en:Lib.fs N.aM=some K.aM:=pL.en
end K
end Go.Ev
namespace Go.Ev
open Go
variable [Lib] [dM] [dh] [o6] [ns] [rP] [lz] [mM] [qI] [od] [kA] [km] [iG] [pL]
abbrev tB(l:List Blt):T:= .sl (l.map Blt.e)
theorem Ge{l:List Blt}{k:Nat}(h:k<l.length):(l.map Blt.e)[k]?=some (nth l k).e:=iE _ h
theorem O7{l:List Blt}(hl:kz l)(j:Int):∀(n:Nat) (a:Int),a<n→a<l.length→ -1≤a→
 qQ true [1,3] (exS aW K.iL) ⟨[.t (tB l),.und,I j,.und,I a],[]⟩=
  some (if tY l j n a=true then(.ret,⟨[.t (tB l),.und,I j,B true,I j],[]⟩)else(.exit 0,⟨[.t (tB l),.und,I j,.und,I (-1)],[]⟩)):=by
 intro n
 induction n with
 | zero=>
   intro a h1 h2 h3
   have:a= -1:=by omega
   subst this
   refine fC ?_ (by simp[tY])
   simp(disch:=omega)only[go_sem,K.iL,↓reduceIte,tY,reduceAdd,reduceSub]
 | succ n ih=>
   intro a h1 h2 h3
   unfold tY
   by_cases c:a<0
   · have:a= -1:=by omega
     subst this
     refine fC ?_ (by simp)
     simp(disch:=omega)only[go_sem,K.iL,↓reduceIte,reduceAdd,reduceSub]
   · obtain⟨k,rfl⟩:∃k:Nat,a=k:=⟨a.toNat,by omega⟩
     have o:=(hl.2 k (by omega)).1
     have ex:=Ge (l:=l) (k:=k) (by omega)
     rw[if_neg c]
     by_cases d:(k:Int)=j
     · subst d
       rw[if_pos rfl]
       refine fC ?_ (by simp)
       simp(disch:=omega)only[go_sem,K.iL,↓reduceIte,reduceAdd,reduceSub]
     · rw[if_neg d]
       have ih:=ih (nth l k).onto (by omega) (by omega) (by omega)
       simp only[Int.toNat_natCast]
       refine nO ?_ ih
       have e:=decide_eq_false d
       generalize nth l k=b at*
       obtain⟨onto,warn⟩:=b
       simp only[Blt.e]at*
       simp(disch:=omega)only[go_sem,K.iL,↓reduceIte,ex,e,d,reduceAdd,reduceSub]
theorem Vy{l:List Blt}(hl:kz l){i:Nat}(hi:i<l.length)(j:Int):aW 0 N.gn [.t (tB l),I i,I j] []=some (B (xk l i j),[]):=by
 refine aA K.tq rfl ?_
 have o:=(hl.2 i hi).1
 have lp:∀z1 z3:D,exS aW K.xB ⟨[.t (tB l),z1,I j,z3,I (nth l i).onto],[]⟩=_:=fun z1 z3=>Fp (O7 hl j (i+1) (nth l i).onto (by omega) (by omega) (by omega))
 have ex:=Ge hi
 unfold xk
 generalize tY l j (i+1) (nth l i).onto=r at*
 generalize nth l i=b at*
 obtain⟨onto,warn⟩:=b
 simp only[Blt.e]at*
 cases r<;>simp only[aLt,↓reduceIte]at lp
 · simp(disch:=omega)only[go_sem,K.gn,↓reduceIte,ex,lp,reduceAdd,reduceSub]
 · simp(disch:=omega)only[go_sem,K.gn,↓reduceIte,ex,lp,reduceAdd,reduceSub]
theorem Sb{l:List Blt}(hl:kz l):∀(m c:Nat) (a:Int),a<m→a<l.length→ -1≤a→(c:Int)+a+1≤l.length→∀j:Nat,∃c':Nat,
 qQ true [1,2,3,4,7,8,9] (exS aW K.mw) ⟨[.t (tB l),.und,.und,.und,.und,I c,I a,.und,.und,.und,I l.length,I j],[]⟩=
  some (.exit 4,⟨[.t (tB l),.und,.und,.und,.und,I c',I (-1),.und,.und,.und,I l.length,I j],[]⟩):=by
 intro m
 induction m with
 | zero=>
   intro c a h1 h2 h3 h4 j
   have:a= -1:=by omega
   subst this
   refine⟨c,fC ?_ (by simp)⟩
   simp(disch:=omega)only[go_sem,K.mw,↓reduceIte,reduceAdd,reduceSub]
 | succ m ih=>
   intro c a h1 h2 h3 h4 j
   by_cases d:a<0
   · have:a= -1:=by omega
     subst this
     refine⟨c,fC ?_ (by simp)⟩
     simp(disch:=omega)only[go_sem,K.mw,↓reduceIte,reduceAdd,reduceSub]
   · obtain⟨k,rfl⟩:∃k:Nat,a=k:=⟨a.toNat,by omega⟩
     have o:=(hl.2 k (by omega)).1
     have l2:=hl.1.2
     have ex:=Ge (l:=l) (k:=k) (by omega)
     obtain⟨c',ih⟩:=ih (c+1) (nth l k).onto (by omega) (by omega) (by omega) (by omega) j
     refine⟨c',nO ?_ ih⟩
     generalize nth l k=b at*
     obtain⟨onto,warn⟩:=b
     simp only[Blt.e]at*
     simp(disch:=omega)only[go_sem,K.mw,↓reduceIte,ex,reduceAdd,reduceSub]
theorem QN{l:List Blt}(hl:kz l):aW 0 N.iq [.t (tB l)] []=some (B true,[]):=by
 refine aA K.vD rfl ?_
 have l1:=hl.1.1
 have l2:=hl.1.2
 have i1:=wo (l.length:Int) 1 24
 have e1:decide ((1:Int)≤l.length)=true:=by simp;omega
 have e2:decide ((l.length:Int)≤24)=true:=by simp;omega
 have lp:∀z1 z2 z3 z4 z5 z6 z10 z11:D,exS aW K.zg ⟨[.t (tB l),z1,z2,z3,z4,z5,z6,.t (tB l),I l.length,I 0,z10,z11],[]⟩=
  some (.exit 0,⟨[.t (tB l),.und,.und,.und,.und,.und,.und,.t (tB l),I l.length,I l.length,.und,.und],[]⟩):=by
  intro z1 z2 z3 z4 z5 z6 z10 z11
  refine dm (fun j=>⟨[.t (tB l),.und,.und,.und,.und,.und,.und,.t (tB l),I l.length,I j,.und,.und],[]⟩) l.length rfl ?_ ?_ (by simp)
  · intro j hj
    have o:=hl.2 j hj
    have ex:=Ge hj
    have i2:=wo (nth l j).onto (-1) (l.length-1)
    have i3:=wo (nth l j).warn 0 120
    have q1:decide (-1≤(nth l j).onto∧(nth l j).onto≤(l.length:Int)-1)=true:=by simp;omega
    have q2:decide (0≤(nth l j).warn∧(nth l j).warn≤120)=true:=by simp;omega
    have q3:¬(nth l j).onto=(j:Int):=by omega
    have q4:=decide_eq_false q3
    generalize nth l j=b at*
    obtain⟨onto,warn⟩:=b
    simp only[Blt.e,q1,q2]at*
    simp(disch:=omega)only[go_sem,K.rD,↓reduceIte,ex,i2,i3,q4,q3,reduceAdd,reduceSub]
  · simp(disch:=omega)only[go_sem,K.rD,↓reduceIte,reduceAdd,reduceSub]
 have lq:∀z1 z2 z3 z4 z5 z6 z7 z8 z9:D,exS aW K.zi ⟨[.t (tB l),z1,z2,z3,z4,z5,z6,z7,z8,z9,I l.length,I 0],[]⟩=
  some (.exit 2,⟨[.t (tB l),.und,.und,.und,.und,.und,.und,.und,.und,.und,I l.length,I l.length],[]⟩):=by
  intro z1 z2 z3 z4 z5 z6 z7 z8 z9
  refine dm (fun j=>⟨[.t (tB l),.und,.und,.und,.und,.und,.und,.und,.und,.und,I l.length,I j],[]⟩) l.length rfl ?_ ?_ (by simp)
  · intro j hj
    obtain⟨c',dn⟩:=Sb hl (j+1) 0 j (by omega) (by omega) (by omega) (by omega) j
    have dn:∀z1 z2 z3 z4 z7 z8 z9:D,exS aW K.zh ⟨[.t (tB l),z1,z2,z3,z4,I 0,I j,z7,z8,z9,I l.length,I j],[]⟩=_:=fun z1 z2 z3 z4 z7 z8 z9=>Fp dn
    simp(disch:=omega)only[go_sem,K.rE,↓reduceIte,dn,reduceAdd,reduceSub]
  · simp(disch:=omega)only[go_sem,K.rE,↓reduceIte,reduceAdd,reduceSub]
 simp(disch:=omega)only[go_sem,K.iq,↓reduceIte,i1,e1,e2,lp,lq,reduceAdd,reduceSub]
instance : Dat Bool := ⟨false⟩
theorem um{l:List Int}{k:Nat}(h:k<l.length):(l.map (T.int .i64))[k]?=some (.int .i64 (nth l k)):=iE _ h
theorem Gf{l:List Bool}{k:Nat}(h:k<l.length):(l.map T.bool)[k]?=some (.bool (nth l k)):=iE _ h
theorem MI{l:List Blt}(hl:kz l){x:Lne}(h:x.ok l):aW 0 N.ir [.t (tB l),.t x.e] []=some (B true,[]):=by
 refine aA K.vE rfl ?_
 have l1:=hl.1.1
 have l2:=hl.1.2
 have so:=QN hl
 have i1:=wo x.time 0 2147483648
 have q1:decide (0≤x.time∧x.time≤2147483648)=true:=by have:=h.t0;have:=h.t1;simp;omega
 have n1:=h.s
 have n2:=h.c
 have n3:=h.p
 have n4:=h.h
 have lp:∀z1 z3 z4 z5 z6 z7:D,exS aW K.zj ⟨[.t (tB l),z1,.bp 0 0,z3,z4,z5,z6,z7,.t (tL x.st),I l.length,I 0],[.box [I x.time,.t (tL x.st),.t (tL x.since),.t (tBs x.pu),.t (tBs x.he)]]⟩=
  some (.exit 0,⟨[.t (tB l),.und,.bp 0 0,.und,.und,.und,.und,.und,.t (tL x.st),I l.length,I l.length],[.box [I x.time,.t (tL x.st),.t (tL x.since),.t (tBs x.pu),.t (tBs x.he)]]⟩):=by
  intro z1 z3 z4 z5 z6 z7
  refine dm (fun j=>⟨[.t (tB l),.und,.bp 0 0,.und,.und,.und,.und,.und,.t (tL x.st),I l.length,I j],[.box [I x.time,.t (tL x.st),.t (tL x.since),.t (tBs x.pu),.t (tBs x.he)]]⟩) l.length rfl ?_ ?_ (by simp)
  · intro j hj
    have b:=h.b j hj
    have r:=h.r j hj
    have o:=(hl.2 j hj).1
    have ex:=Ge hj
    have e1:=um (l:=x.st) (k:=j) (by omega)
    have e2:=um (l:=x.since) (k:=j) (by omega)
    have e3:=Gf (l:=x.pu) (k:=j) (by omega)
    have e4:=Gf (l:=x.he) (k:=j) (by omega)
    have i2:=wo (nth x.st j) 0 2
    have i3:=wo (nth x.since j) 0 x.time
    have q2:decide (0≤nth x.st j∧nth x.st j≤2)=true:=by simp;omega
    have q3:decide (0≤nth x.since j∧nth x.since j≤x.time)=true:=by simp;omega
    rw[q2]at i2
    rw[q3]at i3
    have e5:0≤(nth l j).onto→(x.st.map (T.int .i64))[(nth l j).onto.toNat]?=some (.int .i64 (nth x.st (nth l j).onto.toNat)):=fun g=>um (by omega)
    clear q2 q3 b
    generalize nth x.st (nth l j).onto.toNat=so at*
    generalize nth l j=b at*
    generalize nth x.st j=s at*
    generalize nth x.since j=c at*
    generalize nth x.pu j=pu at*
    generalize nth x.he j=he at*
    obtain⟨onto,warn⟩:=b
    obtain⟨time,st,since,pul,hel⟩:=x
    simp only[Blt.e,tL,tBs]at*
    by_cases s0:s=0
    · subst s0
      simp(disch:=omega)only[go_sem,K.my,↓reduceIte,ex,e1,e2,e3,e4,i2,i3,reduceAdd,reduceSub]
    · obtain⟨r1,r2,r3⟩:=r s0
      subst r1
      subst r2
      have s1:=decide_eq_false s0
      by_cases g:0≤onto
      · obtain⟨k,rfl⟩:∃k:Nat,onto=k:=⟨onto.toNat,by omega⟩
        have e5:=e5 g
        have r3:=r3 g
        subst r3
        simp only[Int.toNat_natCast]at e5
        simp(disch:=omega)only[go_sem,K.my,↓reduceIte,ex,e1,e2,e3,e4,i2,i3,s0,s1,e5,reduceAdd,reduceSub]
      · simp(disch:=omega)only[go_sem,K.my,↓reduceIte,ex,e1,e2,e3,e4,i2,i3,s0,s1,reduceAdd,reduceSub]
  · simp(disch:=omega)only[go_sem,K.my,↓reduceIte,reduceAdd,reduceSub]
 obtain⟨time,st,since,pu,he⟩:=x
 simp only[Lne.e,tL,tBs]at*
 simp(disch:=omega)only[go_sem,K.ir,↓reduceIte,so,i1,q1,n1,n2,n3,n4,lp,List.length_map,reduceAdd,reduceSub]
def Hp(n:Nat):Lne:=⟨0,List.replicate n 0,List.replicate n 0,List.replicate n false,List.replicate n false⟩
theorem Vz{α:Type} [Dat α](a:α){n k:Nat}(h:k<n):nth (List.replicate n a) k=a:=bY (by rw[List.getElem?_replicate,if_pos h])
theorem Ym(l:List Blt):(Hp l.length).ok l:=by
 refine⟨Int.le_refl _,by show(0:Int)≤2147483648;omega,by simp[Hp],by simp[Hp],by simp[Hp],by simp[Hp],fun i hi=>?_,fun i hi hn=>?_⟩
 · simp only[Hp]
   rw[Vz _ hi];omega
 · simp only[Hp]at hn
   rw[Vz _ hi]at hn
   exact absurd rfl hn
theorem Yn{l:List Blt}(hl:kz l):aW 0 N.jQ [.t (tB l)] []=some (.tup [.t (Hp l.length).e,I 0],[]):=by
 refine aA K.xC rfl ?_
 have so:=QN hl
 have l1:=hl.1.1
 have l2:=hl.1.2
 simp only[Hp,Lne.e,tL,tBs,List.map_replicate]
 simp(disch:=omega)only[go_sem,K.jQ,↓reduceIte,so,reduceAdd,reduceSub]
 rw[show List.replicate l.length (D.t (T.bool false))=(List.replicate l.length (T.bool false)).map D.t from by simp]
 simp(disch:=omega)only[go_sem,K.jQ,↓reduceIte,so,reduceAdd,reduceSub]
theorem Gg{l:List Blt}(hl:kz l){x:Lne}(h:x.ok l){i:Nat}(hi:i<l.length):aW 0 N.ff [.t (tB l),.t x.e,I i] []=some (I 0,[]):=by
 refine aA K.rF rfl ?_
 have v:=MI hl h
 have l2:=hl.1.2
 have i1:=wo (i:Int) 0 (l.length-1)
 have q1:decide (0≤(i:Int)∧(i:Int)≤(l.length:Int)-1)=true:=by simp;omega
 obtain⟨time,st,since,pu,he⟩:=x
 simp(disch:=omega)only[go_sem,K.ff,↓reduceIte,v,i1,q1,reduceAdd,reduceSub]
abbrev gr(l:List Bool):Obj:= .arr 1 false 0 ((l.map T.bool).map .t)
abbrev lnC(t:Int)(n p:Nat):List D:=[I t,.ref p 0 n,.ref (p+1) 0 n,.ref (p+2) 0 n,.ref (p+3) 0 n]
theorem uo(l:List Bool)(hl:l.length≤1000000):aW 1 N.bE [.t (tBs l)] []=some (.ref 0 0 l.length,[gr l]):=by
 refine aA K.jR rfl ?_
 by_cases h0:l=[]
 · subst h0
   simp only[tBs,List.map_nil]
   simp(disch:=omega)only[go_sem,K.bE,↓reduceIte,List.map_nil,List.length_nil,reduceAdd,reduceSub]
   rfl
 · have e:=fun H=>JB H (l.map T.bool) (by simpa using h0)
   simp(disch:=omega)only[go_sem,K.bE,↓reduceIte,e,reduceAdd,reduceSub]
theorem adS{l:List Blt}{t:Int}{i:Nat}{p:List Int×List Int}{j:Nat}(c:Cx l i j=true∧nth (mF l t i p j).1 j≠0):mF l t i p (j+1)=((mF l t i p j).1.set j 0,(mF l t i p j).2.set j t):=by
 show(if Cx l i j=true∧nth (mF l t i p j).1 j≠0 then _ else _)=_
 rw[if_pos c]
theorem adT{l:List Blt}{t:Int}{i:Nat}{p:List Int×List Int}{j:Nat}(c:¬(Cx l i j=true∧nth (mF l t i p j).1 j≠0)):mF l t i p (j+1)=mF l t i p j:=by
 show(if Cx l i j=true∧nth (mF l t i p j).1 j≠0 then _ else _)=_
 rw[if_neg c]
theorem Yo{l:List Blt}(hl:kz l){st since:List Int}(hs:st.length=l.length)(hc:since.length=l.length)(t:Int){i:Nat}(hi:i<l.length)(pu he:List Bool):
 aW 0 N.kT [.t (tB l),.bp 0 0,I i] [.box (lnC t l.length 1),mW st,mW since,gr pu,gr he]=
  some (.tup [],[.box (lnC t l.length 1),mW (mF l t i (st,since) l.length).1,mW (mF l t i (st,since) l.length).2,gr pu,gr he]):=by
 refine aA K.xF rfl ?_
 have l2:=hl.1.2
 have lp:∀z3:D,exS aW K.Bq ⟨[.t (tB l),.bp 0 0,I i,z3,I l.length,I 0],[.box (lnC t l.length 1),mW st,mW since,gr pu,gr he]⟩=
  some (.exit 0,⟨[.t (tB l),.bp 0 0,I i,.und,I l.length,I l.length],[.box (lnC t l.length 1),mW (mF l t i (st,since) l.length).1,mW (mF l t i (st,since) l.length).2,gr pu,gr he]⟩):=by
  intro z3
  refine dm (fun j=>⟨[.t (tB l),.bp 0 0,I i,.und,I l.length,I j],[.box (lnC t l.length 1),mW (mF l t i (st,since) j).1,mW (mF l t i (st,since) j).2,gr pu,gr he]⟩) l.length rfl ?_ ?_ (by simp)
  · intro j hj
    have th:=Vy hl hj (i:Int)
    have ln:=A7 l t i (st,since) j
    have e1:=um (l:=(mF l t i (st,since) j).1) (k:=j) (by rw[ln.1];simp only;omega)
    have e2:=um (l:=(mF l t i (st,since) j).2) (k:=j) (by rw[ln.2];simp only;omega)
    have a1:=fun c=>adS (l:=l) (t:=t) (i:=i) (p:=(st,since)) (j:=j) c
    have a2:=fun c=>adT (l:=l) (t:=t) (i:=i) (p:=(st,since)) (j:=j) c
    unfold Cx at a1 a2
    generalize mF l t i (st,since) (j+1)=q' at*
    generalize mF l t i (st,since) j=q at*
    generalize xk l j i=tb at*
    obtain⟨q1,q2⟩:=q
    simp only[lnC,mW,gr]at*
    have n1:q1.length=l.length:=by rw[ln.1];exact hs
    have n2:q2.length=l.length:=by rw[ln.2];exact hc
    by_cases g:(decide (j=i)||tb)=true∧nth q1 j≠0
    · have a1:=a1 g
      subst a1
      obtain⟨g1,g2⟩:=g
      have d1:=decide_eq_false g2
      by_cases ji:j=i
      · subst ji
        simp(disch:=omega)only[go_sem,K.gT,↓reduceIte,th,e1,e2,d1,g2,n1,n2,List.length_map,not_true_eq_false,not_false_eq_true,reduceAdd,reduceSub]
      · have d2:decide ((j:Int)=(i:Int))=false:=by simp;omega
        have tt:tb=true:=by simpa [ji]using g1
        subst tt
        simp(disch:=omega)only[go_sem,K.gT,↓reduceIte,th,e1,e2,d1,d2,g2,n1,n2,List.length_map,not_true_eq_false,not_false_eq_true,reduceAdd,reduceSub]
    · have a2:=a2 g
      subst a2
      by_cases s0:nth q1 j=0
      · have d1:=s0
        by_cases ji:j=i
        · subst ji
          simp(disch:=omega)only[go_sem,K.gT,↓reduceIte,th,e1,e2,s0,n1,n2,List.length_map,not_true_eq_false,not_false_eq_true,reduceAdd,reduceSub]
        · have d2:decide ((j:Int)=(i:Int))=false:=by simp;omega
          cases tb
          · simp(disch:=omega)only[go_sem,K.gT,↓reduceIte,th,e1,e2,d2,s0,n1,n2,List.length_map,not_true_eq_false,not_false_eq_true,reduceAdd,reduceSub]
          · simp(disch:=omega)only[go_sem,K.gT,↓reduceIte,th,e1,e2,d2,s0,n1,n2,List.length_map,not_true_eq_false,not_false_eq_true,reduceAdd,reduceSub]
      · have ji:¬j=i:=fun e=>g ⟨by simp[e],s0⟩
        have d2:decide ((j:Int)=(i:Int))=false:=by simp;omega
        have tt:tb=false:=by
         cases tb with
         | false=>rfl
         | true=>exact absurd ⟨by simp,s0⟩ g
        subst tt
        simp(disch:=omega)only[go_sem,K.gT,↓reduceIte,th,e1,e2,d2,s0,n1,n2,List.length_map,not_true_eq_false,not_false_eq_true,reduceAdd,reduceSub]
  · simp only[lnC,mW,gr]
    simp(disch:=omega)only[go_sem,K.gT,↓reduceIte,reduceAdd,reduceSub]
 simp only[lnC,mW,gr]at*
 simp(disch:=omega)only[go_sem,K.kT,↓reduceIte,lp,reduceAdd,reduceSub]
theorem Yp{l:List Blt}(hl:kz l){x:Lne}(h:x.ok l){i:Nat}(hi:i<l.length)(b:Bool):
 aW 0 N.fy [.bp 0 0,.bp 1 0,.bp 2 0,.bp 3 0] [.box (lnC x.time l.length 4),.box [B b],.box [.t (tB l)],.box [I i],mW x.st,mW x.since,gr x.pu,gr x.he]=
  some (.tup [],[.box (lnC x.time l.length 4),.box [B b],.box [.t (tB l)],.box [I i],mW (yx l x i b).st,mW (yx l x i b).since,gr (yx l x i b).pu,gr (yx l x i b).he]):=by
 refine aA K.te rfl ?_
 have l2:=hl.1.2
 have s:=Yo hl h.s h.c x.time hi x.pu x.he
 have n4:=h.h
 obtain⟨time,st,since,pu,he⟩:=x
 simp only at n4
 have e4:=Gf (l:=he) (k:=i) (by omega)
 cases b<;>simp only[yx,OL,lnC,mW,gr,aLt,↓reduceIte]at*
 · simp(disch:=omega)only[go_sem,K.fy,↓reduceIte,e4,n4,List.length_map,reduceAdd,reduceSub]
 · generalize mF l time i (st,since) l.length=q at*
   simp(disch:=omega)only[go_sem,K.fy,↓reduceIte,s,e4,n4,List.length_map,reduceAdd,reduceSub]
theorem Yq(F:Nat)(a b c:T){x y:Lne}{n:Nat}(hn:n≤1000)(h1:x.st.length=n)(h2:x.since.length=n)(h3:x.pu.length=n)(h4:x.he.length=n)
 (g1:y.st.length=n) (g2:y.since.length=n) (g3:y.pu.length=n) (g4:y.he.length=n)
 (hF:aW 0 F [.bp 0 0,.bp 1 0,.bp 2 0,.bp 3 0] [.box (lnC x.time n 4),.box [.t a],.box [.t b],.box [.t c],mW x.st,mW x.since,gr x.pu,gr x.he]=
  some (.tup [],[.box (lnC y.time n 4),.box [.t a],.box [.t b],.box [.t c],mW y.st,mW y.since,gr y.pu,gr y.he])):
 aW 0 N.ft [.t x.e,.fn F [.bp 0 0,.bp 1 0,.bp 2 0]] [.box [.t a],.box [.t b],.box [.t c]]=some (.t y.e,[.box [.t a],.box [.t b],.box [.t c]]):=by
 refine aA K.qc rfl ?_
 have c1:=rz x.st (by omega)
 have c2:=rz x.since (by omega)
 have c3:=uo x.pu (by omega)
 have c4:=uo x.he (by omega)
 rw[h1]at c1
 rw[h2]at c2
 rw[h3]at c3
 rw[h4]at c4
 obtain⟨time,st,since,pu,he⟩:=x
 obtain⟨time',st',since',pu',he'⟩:=y
 simp only[lnC,mW,gr,Lne.e]at*
 subst g1
 simp(disch:=omega)only[go_sem,K.ft,↓reduceIte,c1,c2,c3,c4,hF,reduceAdd,reduceSub]
theorem Yr{l:List Blt}(hl:kz l){x:Lne}(h:x.ok l){i:Nat}(hi:i<l.length)(b:Bool):
 aW 0 N.kR [.t (tB l),.t x.e,I i,B b] []=some (.tup [.t (yx l x i b).e,I 0],[]):=by
 refine aA K.xD rfl ?_
 have l2:=hl.1.2
 have y:=Qn hl h hi b
 have ck:=Gg hl h hi
 have d:=Yq N.fy (.bool b) (tB l) (tI i) (x:=x) (y:=yx l x i b) (n:=l.length) (by omega) h.s h.c h.p h.h y.s y.c y.p y.h (by rw[IX];exact Yp hl h hi b)
 generalize yx l x i b=r at*
 obtain⟨time,st,since,pu,he⟩:=x
 obtain⟨time',st',since',pu',he'⟩:=r
 simp only[Lne.e]at*
 simp(disch:=omega)only[go_sem,K.kR,↓reduceIte,ck,d,reduceAdd,reduceSub]
theorem VA{n:Nat}{x:Lne}(h1:x.st.length=n)(h2:x.since.length=n)(hn:n≤1000){i:Nat}(hi:i<n):
 aW 0 N.fh [.bp 0 0,.bp 1 0] [.box (lnC x.time n 2),.box [I i],mW x.st,mW x.since,gr x.pu,gr x.he]=
  some (.tup [],[.box (lnC x.time n 2),.box [I i],mW (x.st.set i 1),mW (x.since.set i x.time),gr x.pu,gr x.he]):=by
 refine aA K.rG rfl ?_
 obtain⟨time,st,since,pu,he⟩:=x
 simp only at h1 h2
 have e1:=um (l:=st) (k:=i) (by omega)
 have e2:=um (l:=since) (k:=i) (by omega)
 simp only[lnC,mW,gr]at*
 simp(disch:=omega)only[go_sem,K.fh,↓reduceIte,e1,e2,h1,h2,List.length_map,reduceAdd,reduceSub]
theorem Ys(F:Nat)(a:T){x y:Lne}{n:Nat}(hn:n≤1000)(h1:x.st.length=n)(h2:x.since.length=n)(h3:x.pu.length=n)(h4:x.he.length=n)
 (g1:y.st.length=n) (g2:y.since.length=n) (g3:y.pu.length=n) (g4:y.he.length=n)
 (hF:aW 0 F [.bp 0 0,.bp 1 0] [.box (lnC x.time n 2),.box [.t a],mW x.st,mW x.since,gr x.pu,gr x.he]=
  some (.tup [],[.box (lnC y.time n 2),.box [.t a],mW y.st,mW y.since,gr y.pu,gr y.he])):
 aW 0 N.ft [.t x.e,.fn F [.bp 0 0]] [.box [.t a]]=some (.t y.e,[.box [.t a]]):=by
 refine aA K.qc rfl ?_
 have c1:=rz x.st (by omega)
 have c2:=rz x.since (by omega)
 have c3:=uo x.pu (by omega)
 have c4:=uo x.he (by omega)
 rw[h1]at c1
 rw[h2]at c2
 rw[h3]at c3
 rw[h4]at c4
 obtain⟨time,st,since,pu,he⟩:=x
 obtain⟨time',st',since',pu',he'⟩:=y
 simp only[lnC,mW,gr,Lne.e]at*
 subst g1
 simp(disch:=omega)only[go_sem,K.ft,↓reduceIte,c1,c2,c3,c4,hF,reduceAdd,reduceSub]
theorem Yt(F:Nat)(a b:T){x y:Lne}{n:Nat}(hn:n≤1000)(h1:x.st.length=n)(h2:x.since.length=n)(h3:x.pu.length=n)(h4:x.he.length=n)
 (g1:y.st.length=n) (g2:y.since.length=n) (g3:y.pu.length=n) (g4:y.he.length=n)
 (hF:aW 0 F [.bp 0 0,.bp 1 0,.bp 2 0] [.box (lnC x.time n 3),.box [.t a],.box [.t b],mW x.st,mW x.since,gr x.pu,gr x.he]=
  some (.tup [],[.box (lnC y.time n 3),.box [.t a],.box [.t b],mW y.st,mW y.since,gr y.pu,gr y.he])):
 aW 0 N.ft [.t x.e,.fn F [.bp 0 0,.bp 1 0]] [.box [.t a],.box [.t b]]=some (.t y.e,[.box [.t a],.box [.t b]]):=by
 refine aA K.qc rfl ?_
 have c1:=rz x.st (by omega)
 have c2:=rz x.since (by omega)
 have c3:=uo x.pu (by omega)
 have c4:=uo x.he (by omega)
 rw[h1]at c1
 rw[h2]at c2
 rw[h3]at c3
 rw[h4]at c4
 obtain⟨time,st,since,pu,he⟩:=x
 obtain⟨time',st',since',pu',he'⟩:=y
 simp only[lnC,mW,gr,Lne.e]at*
 subst g1
 simp(disch:=omega)only[go_sem,K.ft,↓reduceIte,c1,c2,c3,c4,hF,reduceAdd,reduceSub]
theorem VB{l:List Blt}(hl:kz l){x:Lne}(h:x.ok l){i:Nat}(hi:i<l.length):
 aW 0 N.ew [.t (tB l),.t x.e,I i] []=some (.tup [.t (pW l x i).e,I (tZ l x i)],[]):=by
 refine aA K.vC rfl ?_
 have l2:=hl.1.2
 have ck:=Gg hl h hi
 have n1:=h.s
 have n2:=h.c
 have n3:=h.p
 have n4:=h.h
 have d:=Ys N.fh (tI i) (x:=x) (y:={ x with st:=x.st.set i 1,since:=x.since.set i x.time}) (n:=l.length) (by omega) n1 n2 n3 n4 (by simp[n1]) (by simp[n2]) n3 n4 (VA n1 n2 (by omega) hi)
 have o:=(hl.2 i hi).1
 have ex:=Ge hi
 have e1:=um (l:=x.st) (k:=i) (by omega)
 have e3:=Gf (l:=x.pu) (k:=i) (by omega)
 have e4:=Gf (l:=x.he) (k:=i) (by omega)
 have e5:0≤(nth l i).onto→(x.st.map (T.int .i64))[(nth l i).onto.toNat]?=some (.int .i64 (nth x.st (nth l i).onto.toNat)):=fun g=>um (by omega)
 obtain⟨time,st,since,pu,he⟩:=x
 simp only at n1 n2 n3 n4 e1 e3 e4 e5
 by_cases s0:nth st i=0
 · by_cases pq:nth pu i=true∨nth he i=true
   · have hc:tZ l ⟨time,st,since,pu,he⟩ i=51:=by
      unfold tZ
      rw[if_neg (by simpa using s0),if_pos pq]
     have hs:pW l ⟨time,st,since,pu,he⟩ i=⟨time,st,since,pu,he⟩:=by
      unfold pW
      rw[hc,if_neg (by decide)]
     rw[hc,hs]
     generalize nth pu i=p at*
     generalize nth he i=q at*
     simp only[Lne.e,tL,tBs]at*
     cases p
     · have q1:q=true:=by simpa using pq
       subst q1
       simp(disch:=omega)only[go_sem,K.ew,↓reduceIte,ck,ex,e1,e3,e4,s0,not_true_eq_false,reduceAdd,reduceSub]
     · simp(disch:=omega)only[go_sem,K.ew,↓reduceIte,ck,ex,e1,e3,e4,s0,not_true_eq_false,reduceAdd,reduceSub]
   · have p1:nth pu i=false:=by
      cases c:nth pu i with
      | false=>rfl
      | true=>exact absurd (.inl c) pq
     have q1:nth he i=false:=by
      cases c:nth he i with
      | false=>rfl
      | true=>exact absurd (.inr c) pq
     by_cases g:0≤(nth l i).onto∧nth st (nth l i).onto.toNat≠2
     · have hc:tZ l ⟨time,st,since,pu,he⟩ i=10:=by
        unfold tZ
        rw[if_neg (by simpa using s0),if_neg pq,if_pos g]
       have hs:pW l ⟨time,st,since,pu,he⟩ i=⟨time,st,since,pu,he⟩:=by
        unfold pW
        rw[hc,if_neg (by decide)]
       rw[hc,hs]
       rw[p1]at e3
       rw[q1]at e4
       obtain⟨g1,g2⟩:=g
       have e5:=e5 g1
       clear hc hs pq
       generalize nth l i=b at*
       obtain⟨onto,warn⟩:=b
       simp only[Blt.e]at*
       obtain⟨k,rfl⟩:∃k:Nat,onto=k:=⟨onto.toNat,by omega⟩
       simp only[Int.toNat_natCast]at e5 g2
       simp only[Lne.e,tL,tBs]at*
       simp(disch:=omega)only[go_sem,K.ew,↓reduceIte,ck,ex,e1,e3,e4,e5,s0,g2,d,not_true_eq_false,not_false_eq_true,reduceAdd,reduceSub]
     · have hc:tZ l ⟨time,st,since,pu,he⟩ i=0:=by
        unfold tZ
        rw[if_neg (by simpa using s0),if_neg pq,if_neg g]
       have hs:pW l ⟨time,st,since,pu,he⟩ i=⟨time,st.set i 1,since.set i time,pu,he⟩:=by
        unfold pW
        rw[hc,if_pos rfl]
       rw[hc,hs]
       rw[p1]at e3
       rw[q1]at e4
       clear hc hs pq
       generalize nth l i=b at*
       obtain⟨onto,warn⟩:=b
       simp only[Blt.e]at*
       by_cases g1:0≤onto
       · obtain⟨k,rfl⟩:∃k:Nat,onto=k:=⟨onto.toNat,by omega⟩
         have e5:=e5 g1
         simp only[Int.toNat_natCast]at e5 g
         have s2:nth st k=2:=Decidable.not_not.1 fun q=>g ⟨g1,q⟩
         simp only[Lne.e,tL,tBs]at*
         simp(disch:=omega)only[go_sem,K.ew,↓reduceIte,ck,ex,e1,e3,e4,e5,s0,s2,d,not_true_eq_false,reduceAdd,reduceSub]
       · simp only[Lne.e,tL,tBs]at*
         simp(disch:=omega)only[go_sem,K.ew,↓reduceIte,ck,ex,e1,e3,e4,s0,d,not_true_eq_false,reduceAdd,reduceSub]
 · have hc:tZ l ⟨time,st,since,pu,he⟩ i=10:=by
    unfold tZ
    rw[if_pos s0]
   have hs:pW l ⟨time,st,since,pu,he⟩ i=⟨time,st,since,pu,he⟩:=by
    unfold pW
    rw[hc,if_neg (by decide)]
   rw[hc,hs]
   simp only[Lne.e,tL,tBs]at*
   simp(disch:=omega)only[go_sem,K.ew,↓reduceIte,ck,ex,e1,e3,e4,s0,not_false_eq_true,reduceAdd,reduceSub]
theorem adU{l:List Blt}{t:Int}{p:List Int×List Int}{j:Nat}(c:nth (jy l t p j).1 j=1∧nth (jy l t p j).2 j+(nth l j).warn≤t):jy l t p (j+1)=((jy l t p j).1.set j 2,(jy l t p j).2.set j (nth (jy l t p j).2 j+(nth l j).warn)):=by
 show(if nth (jy l t p j).1 j=1∧nth (jy l t p j).2 j+(nth l j).warn≤t then _ else _)=_
 rw[if_pos c]
theorem adV{l:List Blt}{t:Int}{p:List Int×List Int}{j:Nat}(c:¬(nth (jy l t p j).1 j=1∧nth (jy l t p j).2 j+(nth l j).warn≤t)):jy l t p (j+1)=jy l t p j:=by
 show(if nth (jy l t p j).1 j=1∧nth (jy l t p j).2 j+(nth l j).warn≤t then _ else _)=_
 rw[if_neg c]
theorem Yu{l:List Blt}(hl:kz l){x:Lne}(h:x.ok l){t:Int}(t0:x.time≤t)(t1:t≤2147483648):
 aW 0 N.gl [.bp 0 0,.bp 1 0,.bp 2 0] [.box (lnC x.time l.length 3),.box [I t],.box [.t (tB l)],mW x.st,mW x.since,gr x.pu,gr x.he]=
  some (.tup [],[.box (lnC t l.length 3),.box [I t],.box [.t (tB l)],mW (Cy l x t).st,mW (Cy l x t).since,gr x.pu,gr x.he]):=by
 refine aA K.tn rfl ?_
 have l2:=hl.1.2
 have lp:∀z3 z4 z5:D,exS aW K.xA ⟨[.bp 0 0,.bp 1 0,.bp 2 0,z3,z4,z5,.ref 3 0 l.length,I l.length,I 0],[.box (lnC t l.length 3),.box [I t],.box [.t (tB l)],mW x.st,mW x.since,gr x.pu,gr x.he]⟩=
  some (.exit 0,⟨[.bp 0 0,.bp 1 0,.bp 2 0,.und,.und,.und,.ref 3 0 l.length,I l.length,I l.length],[.box (lnC t l.length 3),.box [I t],.box [.t (tB l)],mW (jy l t (x.st,x.since) l.length).1,mW (jy l t (x.st,x.since) l.length).2,gr x.pu,gr x.he]⟩):=by
  intro z3 z4 z5
  refine dm (fun j=>⟨[.bp 0 0,.bp 1 0,.bp 2 0,.und,.und,.und,.ref 3 0 l.length,I l.length,I j],[.box (lnC t l.length 3),.box [I t],.box [.t (tB l)],mW (jy l t (x.st,x.since) j).1,mW (jy l t (x.st,x.since) j).2,gr x.pu,gr x.he]⟩) l.length rfl ?_ ?_ (by simp)
  · intro j hj
    have ln:=A8 l t (x.st,x.since) j
    have w:=FK l t (x.st,x.since) (by simp only;rw[h.s,h.c]) j j (by simp only;rw[h.s];exact hj)
    have b:=(h.b j hj).2
    have o:=(hl.2 j hj).2
    have e1:=um (l:=(jy l t (x.st,x.since) j).1) (k:=j) (by rw[ln.1];simp only;rw[h.s];exact hj)
    have e2:=um (l:=(jy l t (x.st,x.since) j).2) (k:=j) (by rw[ln.2];simp only;rw[h.c];exact hj)
    have ex:=Ge hj
    have a1:=fun c=>adU (l:=l) (t:=t) (p:=(x.st,x.since)) (j:=j) c
    have a2:=fun c=>adV (l:=l) (t:=t) (p:=(x.st,x.since)) (j:=j) c
    have n1:(jy l t (x.st,x.since) j).1.length=l.length:=by rw[ln.1];exact h.s
    have n2:(jy l t (x.st,x.since) j).2.length=l.length:=by rw[ln.2];exact h.c
    have bb:0≤nth (jy l t (x.st,x.since) j).2 j∧nth (jy l t (x.st,x.since) j).2 j≤2147483648:=by
     rcases w with⟨-,w⟩ | ⟨w, -⟩
     · rw[w]
       have:=h.t1
       simp only;omega
     · omega
    clear w ln b
    obtain⟨time,st,since,pu,he⟩:=x
    simp only at*
    generalize jy l t (st,since) (j+1)=q' at*
    generalize jy l t (st,since) j=q at*
    generalize nth l j=b at*
    obtain⟨onto,warn⟩:=b
    obtain⟨q1,q2⟩:=q
    simp only[lnC,mW,gr,Blt.e]at*
    by_cases g:nth q1 j=1∧nth q2 j+warn≤t
    · have a1:=a1 g
      subst a1
      obtain⟨g1,g2⟩:=g
      simp(disch:=omega)only[go_sem,K.kC,↓reduceIte,e1,e2,ex,g1,g2,n1,n2,List.length_map,true_and,decide_true,reduceAdd,reduceSub]
    · have a2:=a2 g
      subst a2
      by_cases g1:nth q1 j=1
      · have g2:¬(nth q2 j+warn≤t):=fun g2=>g ⟨g1,g2⟩
        simp(disch:=omega)only[go_sem,K.kC,↓reduceIte,e1,e2,ex,g1,g2,n1,n2,List.length_map,decide_true,reduceAdd,reduceSub]
      · simp(disch:=omega)only[go_sem,K.kC,↓reduceIte,e1,e2,ex,g1,n1,n2,List.length_map,decide_true,reduceAdd,reduceSub]
  · simp only[lnC,mW,gr]
    simp(disch:=omega)only[go_sem,K.kC,↓reduceIte,reduceAdd,reduceSub]
 obtain⟨time,st,since,pu,he⟩:=x
 simp only[lnC,mW,gr,Cy]at*
 simp(disch:=omega)only[go_sem,K.gl,↓reduceIte,lp,reduceAdd,reduceSub]
theorem Yv{l:List Blt}(hl:kz l){x:Lne}(h:x.ok l){t:Int}(t0:x.time≤t)(t1:t≤2147483648):
 aW 0 N.kS [.t (tB l),.t x.e,I t] []=some (.tup [.t (Cy l x t).e,I 0],[]):=by
 refine aA K.xE rfl ?_
 have l2:=hl.1.2
 have y:=Qo hl h t0 t1
 have v:=MI hl h
 have i1:=wo t x.time 2147483648
 have q1:decide (x.time≤t∧t≤2147483648)=true:=by simp;omega
 rw[q1]at i1
 have d:=Yt N.gl (tI t) (tB l) (x:=x) (y:=Cy l x t) (n:=l.length) (by omega) h.s h.c h.p h.h y.s y.c y.p y.h (Yu hl h t0 t1)
 generalize Cy l x t=r at*
 obtain⟨time,st,since,pu,he⟩:=x
 obtain⟨time',st',since',pu',he'⟩:=r
 simp only[Lne.e]at*
 simp(disch:=omega)only[go_sem,K.kS,↓reduceIte,v,i1,d,reduceAdd,reduceSub]
end Go.Ev
namespace Go.Ev
open Go
variable [Lib] [dM] [dh] [o6] [ns] [rP] [lz] [mM] [qI] [od] [kA] [km]
def lexB:List Int→List Int→Bool
 | _,[]=>false
 | [],_::_=>true
 | a::r,b::s=>decide (a<b)||(decide (a=b)&&lexB r s)
theorem Bx(a:Int)(l:List Int)(j:Nat):nth (a::l) (j+1)=nth l j:=by simp[nth]
theorem By(a:Int)(l:List Int):nth (a::l) 0=a:=by simp[nth]
theorem vF:∀a b:List Int,xh a b=lexB a b
 | a,[]=>by
   unfold xh lexB
   simp
 | [],b::s=>by
   unfold xh lexB
   simp
 | a::r,b::s=>by
   have ih:=vF r s
   unfold xh at ih ⊢
   have e:min (a::r).length (b::s).length=min r.length s.length+1:=by simp only[List.length_cons];omega
   rw[e,List.range_succ_eq_map,List.find?_cons]
   simp only[By]
   by_cases h:a=b
   · subst h
     simp only[ne_eq,not_true_eq_false,decide_false,aLt,List.find?_map,lexB,decide_true,Bool.true_and,Int.lt_irrefl,Bool.false_or]
     rw[← ih]
     have:((fun j=>decide (¬nth (a::r) j=nth (a::s) j)) ∘ Nat.succ)=fun j=>decide (nth r j≠nth s j):=by
      funext j
      simp only[Function.comp,Nat.succ_eq_add_one,Bx,ne_eq]
     rw[this]
     cases (List.range (min r.length s.length)).find? (fun j=>decide (nth r j≠nth s j))with
     | some j=>simp only[aLw,Nat.succ_eq_add_one,Bx]
     | none=>simp only[Option.map_none,List.length_cons,Nat.add_lt_add_iff_right]
   · simp only[ne_eq,h,not_false_eq_true,decide_true,lexB,decide_false,Bool.false_and,Bool.or_false,By]
theorem lex_trans:∀ {a b c:List Int},lexB a b=true→lexB b c=true→lexB a c=true
 | _,_,[],_,h=>by simp[lexB]at h
 | [],_,_::_,_,_=>rfl
 | _::_,[],_,h,_=>by simp[lexB]at h
 | a::r,b::s,c::t,h1,h2=>by
   simp only[lexB,Bool.or_eq_true,aLr,decide_eq_true_eq]at h1 h2 ⊢
   rcases h1 with h1 | ⟨h1,k1⟩
   · rcases h2 with h2 | ⟨h2,k2⟩
     · left;omega
     · left;omega
   · rcases h2 with h2 | ⟨h2,k2⟩
     · left;omega
     · right;exact⟨by omega,lex_trans k1 k2⟩
theorem MJ:∀a b:List Int,lexB a b=true∨a=b∨lexB b a=true
 | [],[]=> .inr (.inl rfl)
 | [],_::_=> .inl rfl
 | _::_,[]=> .inr (.inr rfl)
 | a::r,b::s=>by
   simp only[lexB,Bool.or_eq_true,aLr,decide_eq_true_eq,List.cons.injEq]
   rcases MJ r s with h | h | h
   · by_cases c:a<b
     · exact .inl (.inl c)
     · by_cases c2:a=b
       · exact .inl (.inr ⟨c2,h⟩)
       · exact .inr (.inr (.inl (by omega)))
   · by_cases c:a<b
     · exact .inl (.inl c)
     · by_cases c2:a=b
       · exact .inr (.inl ⟨c2,h⟩)
       · exact .inr (.inr (.inl (by omega)))
   · by_cases c:a<b
     · exact .inl (.inl c)
     · by_cases c2:a=b
       · exact .inr (.inr (.inr ⟨c2.symm,h⟩))
       · exact .inr (.inr (.inl (by omega)))
structure WV(m:bh)(first:List Int)(x:World):Prop where
 pm:x.tags.Perm first
 wl:x.whr.length=first.length
 wv:∀w∈x.whr,ei m w=true
structure BV(m:bh)(first:List Int)(ws:List World):Prop where
 pr:jj first=true
 f1:1≤first.length
 f2:first.length≤12
 wv:∀x∈ws,WV m first x
 up:ws.Pairwise fun x y=>lexB x.tags y.tags=true
theorem O8{a b:List Int}(h:a.Perm b)(hb:jj b=true):jj a=true:=by
 rw[FZ]at hb ⊢
 exact⟨h.nodup_iff.2 hb.1,fun x hx=>hb.2 x (h.mem_iff.1 hx)⟩
theorem BV.bel{m:bh}{first:List Int}{ws:List World}(h:BV m first ws)(h1:1≤ws.length)(h2:ws.length≤24):yg m ⟨ws⟩=true:=by
 have w0:=h.wv _ (ai (l:=ws) (j:=0) (by omega))
 have l0:=w0.pm.length_eq
 simp only[yg,aLr,decide_eq_true_eq,aLx,aLu,tT,Bool.or_eq_true,Sy]
 have f1:=h.f1
 have f2:=h.f2
 refine⟨⟨⟨h1,h2⟩,by omega⟩,fun i hi=>?_⟩
 have wi:=h.wv _ (ai (l:=ws) (j:=i) hi)
 have li:=wi.pm.length_eq
 have wl:=wi.wl
 refine⟨⟨⟨by omega,O8 wi.pm h.pr⟩,?_⟩,fun k hk=>⟨?_,?_⟩⟩
 · by_cases c:i=0
   · exact .inl c
   · right
     rw[vF]
     have:=(List.pairwise_iff_getElem.1 h.up) (i-1) i (by omega) hi (by omega)
     rwa [← bY (aLc (by omega:i-1<ws.length)),←bY (aLc hi)]at this
 · exact pB.2 (w0.pm.symm.mem_iff.1 (wi.pm.mem_iff.1 (ai hk)))
 · exact wi.wv _ (ai (by omega))
theorem VC{m:bh}{ws:List World}(h:yg m ⟨ws⟩=true):BV m (nth ws 0).tags ws:=by
 obtain⟨h1,h2,h3,h4,h5⟩:=m5 h
 simp only at h1 h2 h3 h4 h5
 have p0:=(lI (h5 0 (by omega))).2.2.1
 refine⟨p0,h3,h4,fun x hx=>?_,?_⟩
 · obtain⟨i,hi⟩:=aLf.1 hx
   have il:=(aLe.1 hi).1
   obtain⟨w1,w2,w3,w4⟩:=lI (h5 i il)
   rw[bY hi]at w1 w2 w3 w4
   refine⟨zd (mE w3) (mE p0) w1 fun y hy=>?_,w2,fun w hw=>?_⟩
   · obtain⟨j,hj⟩:=aLf.1 hy
     have:=(w4 j (aLe.1 hj).1).1
     rwa [bY hj]at this
   · obtain⟨j,hj⟩:=aLf.1 hw
     have:=(w4 j (by rw[w1,←w2];exact(aLe.1 hj).1)).2
     rwa [bY hj]at this
 · have key:∀d i,i+d+1<ws.length→lexB (nth ws i).tags (nth ws (i+d+1)).tags=true:=by
    intro d
    induction d with
    | zero=>
      intro i hi
      have:=h5 (i+1) hi
      simp only[tT,aLr,Bool.or_eq_true,decide_eq_true_eq]at this
      have:=this.1.2
      rw[← vF]
      simpa using this
    | succ d ih=>
      intro i hi
      have a:=ih i (by omega)
      have:=h5 (i+(d+1)+1) hi
      simp only[tT,aLr,Bool.or_eq_true,decide_eq_true_eq]at this
      have b:=this.1.2.resolve_left (by omega)
      rw[vF,show i+(d+1)+1-1=i+d+1 by omega]at b
      exact lex_trans a b
   rw[List.pairwise_iff_getElem]
   intro i j hi hj hij
   have:=key (j-i-1) i (by omega)
   rw[show i+(j-i-1)+1=j by omega,bY (aLc hi),bY (aLc hj)]at this
   exact this
theorem Sc{l:List Int}{i j:Nat}(hi:i<l.length)(hj:j<l.length):(Rw l i j).Perm l:=by
 have:=Array.swap_perm (xs:=l.toArray) (i:=i) (j:=j) (by simpa using hi) (by simpa using hj)
 rw[Array.perm_iff_toList_perm]at this
 unfold Rw
 rw[bY (aLc hi),bY (aLc hj)]
 simpa [Array.swap]using this
theorem Bz{m:bh}{l:List Wh}(hl:∀w∈l,ei m w=true)(i:Nat){x:Wh}(hx:i<l.length→ei m x=true):∀w∈l.set i x,ei m w=true:=by
 intro w hw
 by_cases h:i<l.length
 · rcases aLk hw with a | rfl
   · exact hl w a
   · exact hx h
 · rw[List.set_eq_of_length_le (by omega)]at hw;exact hl w hw
theorem Gi{m:bh}(h:m.ok){w:Wh}(hv:ei m w=true)(t:Int):ei m (tP w t).1=true:=by
 unfold tP
 split
 · exact hv
 · obtain⟨a,b,c, -⟩:=jh hv
   have cl:=F9 h hv
   unfold inT at b
   exact F8 h a (by simp only;unfold inT;omega) c (QA (t':=t) (by omega) cl)
theorem VD{m:bh}{first:List Int}{x:World}(h:WV m first x)(tag:Int){w:Wh}(hw:(cN x.tags tag).toNat<x.whr.length→ei m w=true):WV m first (Rt tag x w):=
 ⟨h.pm,by simp[Rt,h.wl],Bz h.wv _ hw⟩
def al5(m:bh)(tag:Int)(l:List Int)(a b:Int)(x:World):Option World:=
 if(IL m tag l a b x).2=43 then none else some (if(IL m tag l a b x).2=0 then Rt tag x (IL m tag l a b x).1 else x)
theorem QO(m:bh)(tag:Int)(l:List Int)(a b:Int)(ws:List World):∀j,j≤ws.length→tU m tag l a b ws j=(ws.take j).filterMap (al5 m tag l a b)
 | 0,_=>by simp[tU]
 | j+1,h=>by
   rw[yd (by omega),List.filterMap_append]
   simp only[tU,QO m tag l a b ws j (by omega),Ov,al5,List.filterMap_cons,List.filterMap_nil]
   split<;>simp_all
theorem QP(m:bh)(tag:Int)(l:List Int)(a b bl:Int)(ws:List World):∀j,j≤ws.length→xi m tag l a b bl ws j=(ws.take j).map fun x=>if(IM m tag l a b bl x).2=0 then Rt tag x (IM m tag l a b bl x).1 else x
 | 0,_=>by simp[xi]
 | j+1,h=>by
   rw[yd (by omega),List.map_append]
   simp only[xi,QP m tag l a b bl ws j (by omega),Ru,List.map_cons,List.map_nil]
theorem O9{m:bh}(hm:m.ok){first:List Int}{tag:Int}{l:List Int}{a b:Int}{x y:World}(h:WV m first x)(e:al5 m tag l a b x=some y):WV m first y∧y.tags=x.tags:=by
 unfold al5 at e
 split at e
 · cases e
 · simp only[Option.some.injEq]at e
   subst e
   split
   · exact⟨VD h tag fun hl=>Vg hm (h.wv _ (ai hl)) l a b,rfl⟩
   · exact⟨h,rfl⟩
theorem ajx{m:bh}(hm:m.ok){first:List Int}{ws:List World}(h:BV m first ws)(tag:Int)(l:List Int)(a b:Int):BV m first (tU m tag l a b ws ws.length):=by
 rw[QO m tag l a b ws _ (aLs _),List.take_length]
 refine⟨h.pr,h.f1,h.f2,fun y hy=>?_,?_⟩
 · obtain⟨x,hx,e⟩:=List.mem_filterMap.1 hy
   exact(O9 hm (h.wv x hx) e).1
 · rw[List.pairwise_filterMap]
   refine(List.Pairwise.imp_of_mem ?_ h.up)
   intro x y hx hy hxy x' ex y' ey
   rw[(O9 hm (h.wv x hx) ex).2,(O9 hm (h.wv y hy) ey).2]
   exact hxy
theorem ajy{m:bh}(hm:m.ok){first:List Int}{ws:List World}(h:BV m first ws)(tag:Int)(l:List Int)(a b bl:Int):BV m first (xi m tag l a b bl ws ws.length):=by
 rw[QP m tag l a b bl ws _ (aLs _),List.take_length]
 have tg:∀x:World,(if(IM m tag l a b bl x).2=0 then Rt tag x (IM m tag l a b bl x).1 else x).tags=x.tags:=by
  intro x;split<;>rfl
 refine⟨h.pr,h.f1,h.f2,fun y hy=>?_,?_⟩
 · obtain⟨x,hx,rfl⟩:=List.mem_map.1 hy
   have wx:=h.wv x hx
   split
   · exact VD wx tag fun hl=>Vi hm (wx.wv _ (ai hl)) l a b bl
   · exact wx
 · rw[List.pairwise_map]
   refine h.up.imp fun{x y} hxy=>?_
   rw[tg,tg];exact hxy
theorem Yw{m:bh}(hm:m.ok){first:List Int}{x:World}(h:WV m first x){i j:Nat}(hi:i<first.length)(hj:j<first.length)(t:Int):WV m first (Cu i j t x):=by
 have wl:=h.wl
 have tl:=h.pm.length_eq
 refine⟨(Sc (by omega) (by omega)).trans h.pm,by simp[Cu,wl],?_⟩
 exact Bz (Bz h.wv i fun hl=>Gi hm (h.wv _ (ai hl)) t) j fun hl=>Gi hm (h.wv _ (ai (by simpa using hl))) t
theorem Gj{m:bh}(hm:m.ok){first:List Int}{ws:List World}(h:∀x∈ws,WV m first x){i j:Nat}(hi:i<first.length)(hj:j<first.length)(t:Int):∀k,k≤ws.length→∀x∈mL i j t ws k,WV m first x
 | 0,_,x,hx=>h x hx
 | k+1,hk,x,hx=>by
   simp only[mL,Hd]at hx
   split at hx
   · rcases List.mem_append.1 hx with hx | hx
     · exact Gj hm h hi hj t k (by omega) x hx
     · rw[List.mem_singleton.1 hx]
       exact Yw hm (h _ (ai (by omega))) hi hj t
   · exact Gj hm h hi hj t k (by omega) x hx
theorem Gk{m:bh}(hm:m.ok){a b:List Wh}(ha:∀w∈a,ei m w=true)(hb:∀w∈b,ei m w=true):∀p,p≤a.length→p≤b.length→∀w∈rq a b p,ei m w=true
 | 0,_,_,w,hw=>ha w hw
 | p+1,h1,h2,w,hw=>by
   refine Bz (Gk hm ha hb p (by omega) (by omega)) p (fun _=>?_) w hw
   exact(RZ hm (ha _ (ai (by omega))) (hb _ (ai (by omega)))).2.1
theorem Yx{out:List World}{x:World}{k:Nat}(h:k<jO out x):lexB (nth out k).tags x.tags=true:=by
 unfold jO at h
 split at h
 · rename_i j hf
   rw[List.find?_range_eq_some]at hf
   have:=hf.2.2 k h
   rw[← vF];simpa using this
 · rename_i hf
   have:=List.find?_eq_none.1 hf k (aLu.2 h)
   rw[← vF];simpa using this
theorem Yy{out:List World}{x:World}(h:jO out x<out.length):lexB (nth out (jO out x)).tags x.tags=false:=by
 unfold jO at h ⊢
 split
 · rename_i j hf
   rw[List.find?_range_eq_some]at hf
   have:=hf.1
   rw[← vF];simpa using this
 · rename_i hf
   rw[hf]at h;simp at h
theorem Yz{m:bh}(hm:m.ok){first:List Int}{out:List World}(h:BV m first out){x:World}(hx:WV m first x):BV m first (xj out x):=by
 have kl:=JW out x
 unfold xj
 split
 · rename_i c
   obtain⟨c1,c2⟩:=c
   have wk:=h.wv _ (ai c1)
   have w1:=wk.wl
   have w2:=hx.wl
   refine⟨h.pr,h.f1,h.f2,fun y hy=>?_,?_⟩
   · rcases aLk hy with a | rfl
     · exact h.wv y a
     · exact⟨hx.pm,by rw[IQ,tW];exact w1,Gk hm wk.wv hx.wv _ (by omega) (by omega)⟩
   · have u:=h.up
     rw[← List.pairwise_map (f:=World.tags) (R:=fun a b=>lexB a b=true)]at u ⊢
     rw[List.map_set]
     have e:(out.map World.tags).set (jO out x) x.tags=out.map World.tags:=by
      apply List.ext_getElem?
      intro i
      by_cases hi:jO out x=i
      · rw[← hi,aLj (by simpa using c1),aLn,oN c1,←c2];rfl
      · rw[aLi hi]
     rw[e];exact u
 · rename_i c
   refine⟨h.pr,h.f1,h.f2,fun y hy=>?_,?_⟩
   · simp only[List.mem_append,List.mem_singleton]at hy
     rcases hy with(hy | rfl) | hy
     · exact h.wv y (List.mem_of_mem_take hy)
     · exact hx
     · exact h.wv y (List.mem_of_mem_drop hy)
   · have u:=h.up
     have lo:∀y∈out.take (jO out x),lexB y.tags x.tags=true:=by
      intro y hy
      obtain⟨i,hi⟩:=aLf.1 hy
      have il:=(aLe.1 hi).1
      rw[List.length_take]at il
      rw[List.getElem?_take_of_lt (by omega)]at hi
      have:=Yx (out:=out) (x:=x) (k:=i) (by omega)
      rwa [bY hi]at this
     have hi:∀y∈out.drop (jO out x),lexB x.tags y.tags=true:=by
      intro y hy
      obtain⟨i,hi⟩:=aLf.1 hy
      have il:=(aLe.1 hi).1
      rw[List.length_drop]at il
      rw[List.getElem?_drop]at hi
      have c1:jO out x<out.length:=by omega
      have at_:=Yy c1
      have ne:(nth out (jO out x)).tags≠x.tags:=fun e=>c ⟨c1,e⟩
      have first_:lexB x.tags (nth out (jO out x)).tags=true:=by
       rcases MJ (nth out (jO out x)).tags x.tags with a | a | a
       · rw[a]at at_;cases at_
       · exact absurd a ne
       · exact a
      by_cases i0:i=0
      · subst i0
        rw[Nat.add_zero]at hi
        rwa [bY hi]at first_
      · have:=(List.pairwise_iff_getElem.1 u) (jO out x) (jO out x+i) (by omega) (by omega) (by omega)
        rw[← bY (aLc (by omega:jO out x<out.length)),←bY (aLc (by omega:jO out x+i<out.length)),bY hi]at this
        exact lex_trans first_ this
     have td:out.take (jO out x)++out.drop (jO out x)=out:=List.take_append_drop _ _
     have u2:=u
     rw[← td,List.pairwise_append]at u2
     rw[List.append_assoc,List.pairwise_append]
     refine⟨u2.1,?_,fun y hy z hz=>?_⟩
     · rw[List.singleton_append,List.pairwise_cons];exact⟨hi,u2.2.1⟩
     · simp only[List.singleton_append,List.mem_cons]at hz
       rcases hz with rfl | hz
       · exact lo y hy
       · exact u2.2.2 y hy z hz
theorem QQ{m:bh}(hm:m.ok){first:List Int}(pr:jj first=true)(f1:1≤first.length)(f2:first.length≤12){l:List World}(hl:∀x∈l,WV m first x):∀j,j≤l.length→BV m first (zP l j)
 | 0,_=>⟨pr,f1,f2,fun x hx=>by simp[zP]at hx,by simp[zP]⟩
 | j+1,h=>Yz hm (QQ hm pr f1 f2 hl j (by omega)) (hl _ (ai (by omega)))
theorem adW{m:bh}(hm:m.ok){b:Bel}(hb:yg m b=true)(tag:Int)(l:List Int)(a c:Int):yg m (yY m b tag l a c).1=true:=by
 unfold yY
 split
 · exact hb
 · split
   · exact hb
   · split
     · exact hb
     · rename_i h
       obtain⟨ws⟩:=b
       have bv:=ajx hm (VC hb) tag l a c
       have ln:=A2 m tag l a c ws ws.length
       obtain⟨h1,h2, -⟩:=m5 hb
       simp only at h1 h2 h ⊢
       exact bv.bel (by omega) (by omega)
theorem adX{m:bh}(hm:m.ok){b:Bel}(hb:yg m b=true)(tag:Int)(l:List Int)(a c bl:Int):yg m (yZ m b tag l a c bl).1=true:=by
 unfold yZ
 split
 · exact hb
 · split
   · exact hb
   · obtain⟨ws⟩:=b
     have bv:=ajy hm (VC hb) tag l a c bl
     have ln:=A3 m tag l a c bl ws ws.length
     obtain⟨h1,h2, -⟩:=m5 hb
     simp only at h1 h2 ⊢
     exact bv.bel (by omega) (by omega)
theorem YA{m:bh}(hm:m.ok){b:Bel}(hb:yg m b=true)(i j t:Int):yg m (sX m b i j t).1=true:=by
 unfold sX
 split
 · exact hb
 · split
   · exact hb
   · rename_i hij
     split
     · exact hb
     · split
       · exact hb
       · rename_i hl
         obtain⟨ws⟩:=b
         have bv:=VC hb
         obtain⟨h1,h2, -⟩:=m5 hb
         simp only at h1 h2 hl hij ⊢
         have nb:=Gj hm bv.wv (i:=i.toNat) (j:=j.toNat) (by omega) (by omega) t ws.length (aLs _)
         have el:=yi i.toNat j.toNat t ws ws.length
         have tv:=QQ hm bv.pr bv.f1 bv.f2 nb _ (aLs _)
         refine BV.bel tv ?_ (Nat.not_lt.1 hl)
         have t1:∀k,1≤k→1≤(zP (mL i.toNat j.toNat t ws ws.length) k).length:=by
          intro k hk
          obtain⟨k,rfl⟩:∃k',k=k'+1:=⟨k-1,by omega⟩
          exact(A5 _ _).2.2
         exact t1 _ (by omega)
theorem Jc{m:bh}(hm:m.ok){n:Int}{s:BSt}(hb:yg m s.b=true):∀k,yg m (aD.G5 m n s k).b=true
 | 0=>hb
 | k+1=>by
   have ih:=Jc hm (n:=n) hb k
   simp only[aD.G5]
   generalize aD.G5 m n s k=q at*
   unfold aD.qp
   simp only
   split
   · simp only
     split
     · exact YA hm ih _ _ _
     · exact ih
   · split
     · simp only
       split
       · exact adW hm ih _ _ _ _
       · exact ih
     · simp only
       split
       · exact adX hm ih _ _ _ _ _
       · exact ih
theorem Sd{m:bh}(hm:m.ok)(h1:1≤m.ae.length)(d:aD):yg m (d.V3 m).b=true:=by
 have pb:=J1 d
 have tl:=pU d.vv
 have sl:(d.r9 m).1.length=d.vv:=aD.pD _ _ _
 have t0:=(d.r9 m).2.dN 100
 have t9:=(d.r9 m).2.dV (n:=100) (by omega)
 have pr:=Dq (n:=d.vv) (by omega)
 unfold aD.V3
 rw[OD hm h1]
 refine BV.bel (first:=vu d.vv) ⟨pr,by omega,by omega,fun x hx=>?_,by simp⟩ (by simp) (by simp)
 rw[List.mem_singleton.1 hx]
 refine⟨List.Perm.refl _,by simp,fun w hw=>?_⟩
 simp only[kh,List.mem_map,aLu]at hw
 obtain⟨i,hi,rfl⟩:=hw
 have hi:i<(d.r9 m).1.length:=by rw[sl,←tl];exact hi
 have:=A6 (d.next 3).2 (n:=m.ae.length) (by omega) d.vv _ (ai hi)
 exact(OX hm this.1 this.2 ⟨by omega,by omega⟩).2
theorem MK{m:bh}(hm:m.ok)(h1:1≤m.ae.length)(d:aD):yg m (d.IV m).1=true:=Jc hm (Sd hm h1 d) _
theorem YB{d:aD}(hd:d.dC){m:bh}(hm:m.ok)(h1:1≤m.ae.length):
 ∃(b:Bel) (e:aD) (np:Nat),aW 0 N.cQ [.bp 0 0,.t m.e] [d.obj]=some (.t b.e,[e.obj])∧e.dC∧BOk m np b∧yg m b=true:=
 ⟨_,_,_,Uq hm h1 d hd,(Ml hm h1 hd).2,(Ml hm h1 hd).1,MK hm h1 d⟩
theorem ML{m:bh}(hm:m.ok)(h1:1≤m.ae.length)(d:aD){fl:List Spn}(hf:ky m fl=true):oP m (d.spread m fl).1=true:=by
 unfold aD.spread
 simp only
 have p0:=d.dN m.ae.length
 have p9:=d.dV (n:=m.ae.length) (by omega)
 have t0:=(d.next m.ae.length).2.dN 200
 have t9:=(d.next m.ae.length).2.dV (n:=200) (by omega)
 obtain⟨s,e1,sg,st, -⟩:=MA hm hf (l:=[(d.next m.ae.length).1]) (J2 p0 p9) (t:=((d.next m.ae.length).2.next 200).1) ⟨by omega,by omega⟩
 rw[e1]
 simp only
 split
 · generalize (((d.next m.ae.length).2.next 200).2.one 2).2=o
   have fg:=aD.zS o m.roads.length
   have fl2:=aD.tX o m.roads.length
   have a0:=(o.Cv m).2.dN 100
   have a9:=(o.Cv m).2.dV (n:=100) (by omega)
   split
   · rename_i hr
     obtain⟨s',e2,sg2, -⟩:=Kb hm hf hm (fl:=(o.Cv m).1) (Us fl2 fg) rfl sg.valid (t:=s.time+((o.Cv m).2.next 100).1) (by omega) (by omega)
     rw[e2]
     exact sg2.valid
   · exact sg.valid
 · exact sg.valid
theorem YC{d:aD}(hd:d.dC){m:bh}(hm:m.ok)(h1:1≤m.ae.length){fl:List Spn}(f1:fl.length=m.roads.length)(f2:∀x∈fl,x.ok):
 ∃(s:Wh) (e:aD),aW 0 N.cg [.bp 0 0,.t m.e,.t (tS fl)] [d.obj]=some (.t s.e,[e.obj])∧e.dC∧s.frm.length=m.ae.length∧0≤s.time∧s.time≤300∧oP m s=true:=by
 have g:=aD.OI (d:=d) hm h1 (ZQ f1 f2)
 have nr:=hm.nr
 exact⟨_,_,Ut hm h1 fl (by omega) d hd,aD.Mn hd m fl,g.1,g.2.1,g.2.2,ML hm h1 d (ZQ f1 f2)⟩
end Go.Ev
namespace Go.Ev
open Go
variable [Lib] [dM] [dh] [o6] [ns] [rP] [lz] [mM] [qI] [od] [kA] [km] [iG] [pL]
theorem YD{a b:List Int}{p:Int}(h:qx a b=false)(hp:p∈b):¬p∈a:=by
 intro q
 have:qx a b=true:=by
  unfold qx
  rw[List.any_eq_true]
  exact⟨p,q,decide_eq_true hp⟩
 rw[h]at this
 cases this
theorem Se{w:Wh}{t u:Int}(h:t≤u){p:Int}(hp:p∈sW w t):p∈sW w u:=by
 unfold sW at hp ⊢
 rw[IY]at hp ⊢
 obtain⟨j,a,b,c⟩:=hp
 refine⟨j,a,b,?_⟩
 rw[decide_eq_true_eq]at c ⊢
 omega
theorem VE{x:Mch}{s:Wh}{b:Bel}{t:Int}{p:Int}(hx:x.pl=[p])(h:Hf (xw x s b t 40)=false):(¬p∈sW s (t+20))∧Qw x s b t 40=[]:=by
 have h2:¬(xw x s b t 40=2∨xw x s b t 40=1):=by
  unfold Hf at h
  rintro (e | e)<;>rw[e]at h<;>simp at h
 refine⟨fun q=>?_,by unfold Qw;rw[if_neg h2]⟩
 have q:=Se (u:=t+40) (by omega) q
 unfold xw at h2
 by_cases c:qx (sW s t) x.pl=true
 · rw[if_pos c]at h2
   exact h2 (.inl rfl)
 · rw[if_neg c]at h2
   by_cases d:qx (sW s (t+40)) x.pl=true
   · rw[if_pos d]at h2
     exact h2 (.inr rfl)
   · exact YD (by simpa using d) (by rw[hx];simp) q
def mOK(m:bh)(lm:List Mch):Prop:=∀j,j<lm.length→∃p:Int,nth lm j=⟨1,j,[p]⟩∧0≤p∧p<m.ae.length
theorem YE{m:bh}{lm:List Mch}(h:mOK m lm){p:Int}(h0:0≤p)(h1:p<m.ae.length):mOK m (lm++[⟨1,lm.length,[p]⟩]):=by
 intro j hj
 rw[aLv,List.length_singleton]at hj
 by_cases c:j<lm.length
 · obtain⟨q,a,b⟩:=h j c
   refine⟨q,?_,b⟩
   rw[← a]
   exact bY (by rw[aLg c];rw[aLc c];exact congrArg some (bY (aLc c)).symm)
 · obtain rfl:j=lm.length:=by omega
   exact⟨p,bY (by rw[aLh (aLs _),Nat.sub_self];rfl),h0,h1⟩
def VF(l:List Blt):Prop:=l.length≤24∧∀i,i<l.length→(-1≤(nth l i).onto∧(nth l i).onto<i)∧0≤(nth l i).warn∧(nth l i).warn≤120
theorem Pa{l:List Blt}(h:VF l)(h2:l.length<24){o w:Int}(a: -1≤o)(b:o<l.length)(c:0≤w)(d:w≤120):VF (l++[⟨o,w⟩]):=by
 refine⟨by rw[aLv,List.length_singleton];omega,fun j hj=>?_⟩
 rw[aLv,List.length_singleton]at hj
 by_cases e:j<l.length
 · have:nth (l++[⟨o,w⟩]) j=nth l j:=bY (by rw[aLg e];rw[aLc e];exact congrArg some (bY (aLc e)).symm)
   rw[this]
   exact h.2 j e
 · obtain rfl:j=l.length:=by omega
   have:nth (l++[⟨o,w⟩]) l.length=⟨o,w⟩:=bY (by rw[aLh (aLs _),Nat.sub_self];rfl)
   rw[this]
   exact⟨⟨a,b⟩,c,d⟩
@[go_sem] theorem ajz (l : List Blt) : rM 2 (l.map Blt.e) = true := by cases l <;> rfl
abbrev ajA(l:List Blt):Obj:= .arr 2 false 0 ((l.map Blt.e).map .t)
abbrev ajB(l:List Mch):Obj:= .arr 3 false 0 ((l.map Mch.e).map .t)
def tmP(m:bh)(s:Wh)(b:Bel)(N:Nat)(j:Nat)(st:St):Prop:=
 ∃(e:aD) (lb:List Blt) (lm:List Mch),e.dC∧lb.length=j∧lm.length=j∧VF lb∧mOK m lm∧
  st=⟨[.und,.und,.bp 0 0,.bp 1 0,.bp 2 0,.bp 3 0,.ref 4 0 j,.ref 5 0 j,I ((N:Int)-j),.und,.und,.und,.und,.und,.und,.und,.und],
   [e.obj,.box (af m),.box [I s.time,.t (tL s.frm)],.box [.t (.sl (b.aK.map World.e))],ajA lb,ajB lm]⟩
theorem YF{d:aD}(hd:d.dC){m:bh}(h1:1≤m.ae.length)(h2:m.ae.length≤1000)(s:Wh)(b:Bel){N:Nat}(hN:N≤4):∀z0 z1 z9 z10 z11 z12 z13 z14 z15 z16:D,∃q,
 exS aW K.sq ⟨[z0,z1,.bp 0 0,.bp 1 0,.bp 2 0,.bp 3 0,.ref 4 0 0,.ref 5 0 0,I N,z9,z10,z11,z12,z13,z14,z15,z16],
  [d.obj,.box (af m),.box [I s.time,.t (tL s.frm)],.box [.t (.sl (b.aK.map World.e))],ajA [],ajB []]⟩=some q∧∃st,q=(.exit 0,st)∧tmP m s b N N st:=by
 intro z0 z1 z9 z10 z11 z12 z13 z14 z15 z16
 refine JV (tmP m s b N) N _ ⟨d,[],[],hd,rfl,rfl,⟨by simp,fun i hi=>by simp at hi⟩,fun i hi=>by simp at hi,by simp;rfl⟩ ?_ ?_
 · rintro j st hj ⟨e,lb,lm,l0,n1,n2,bo,mo,rfl⟩
   obtain⟨p,e1,r1,l1,p0,p1⟩:=UB l0 m.ae.length (by omega) (by omega)
   obtain⟨o,e2,r2,l2,o0,o1⟩:=UB l1 (lb.length+1) (by omega) (by omega)
   obtain⟨w,e3,r3,l3,wm⟩:=aqz l2 [5,0] (by simp) (by simp)
   have w2:0≤w∧w≤120:=by simp at wm;omega
   have bo2:=Pa bo (by omega) (o:=o-1) (w:=w) (by omega) (by omega) w2.1 w2.2
   have mo2:=YE mo p0 p1
   refine⟨_,?_,e3,lb++[⟨o-1,w⟩],lm++[⟨1,lm.length,[p]⟩],l3,by simp[n1],by simp[n2],bo2,mo2,rfl⟩
   clear bo bo2 mo mo2 wm
   obtain⟨ae,roads⟩:=m
   simp only[ajA,ajB,af,List.map_append,List.map_cons,List.map_nil,tL]at*
   subst n1
   simp(disch:=omega)only[go_sem,K.nH,↓reduceIte,r1,r2,r3,n2,List.length_map,reduceAdd,reduceSub]
   simp only[Blt.e,Mch.e,tL,List.map_cons,List.map_nil,show((N:Int)-lb.length-1)=N-((lb.length:Int)+1)by omega]
 · rintro st ⟨e,lb,lm,l0,n1,n2,bo,mo,rfl⟩
   refine⟨_,?_,?_,_,rfl,e,lb,lm,l0,n1,n2,bo,mo,rfl⟩
   · simp only[ajA,ajB]
     simp(disch:=omega)only[go_sem,K.nH,↓reduceIte,reduceAdd,reduceSub]
   · simp
abbrev Lne.c(x:Lne):List D:=[I x.time,.t (tL x.st),.t (tL x.since),.t (tBs x.pu),.t (tBs x.he)]
abbrev DX(l:List Blt):Obj:= .arr 2 true 0 ((l.map Blt.e).map .t)
abbrev Kc(l:List Mch):Obj:= .arr 3 true 0 ((l.map Mch.e).map .t)
abbrev tmH(e:aD)(m:bh)(s:Wh)(b:Bel)(lb:List Blt)(lm:List Mch)(x:Lne):ao:=
 [e.obj,.box (af m),.box [I s.time,.t (tL s.frm)],.box [.t (.sl (b.aK.map World.e))],DX lb,Kc lm,.box x.c]
section
variable {e : aD} {m : bh} {s : Wh} {b : Bel} {lb : List Blt} {lm : List Mch} (hl : kz lb) (hn : lm.length = lb.length)
include hl hn
theorem adY{x:Lne}(h:x.ok lb){c:List Int}(hc:c.length=lb.length)(now:Int):∀z0 z1 z2 z8 z10 z13 z15 z16:D,
 exS aW K.sr ⟨[z0,z1,z2,.bp 1 0,.bp 2 0,.bp 3 0,.ref 4 0 lb.length,.ref 5 0 lm.length,z8,.bp 6 0,z10,I now,.t (tL c),z13,I 0,z15,z16],tmH e m s b lb lm x⟩=
  some (.exit 4,⟨[.und,.und,.und,.bp 1 0,.bp 2 0,.bp 3 0,.ref 4 0 lb.length,.ref 5 0 lm.length,.und,.bp 6 0,.und,I now,.t (tL c),.und,I lb.length,.und,.und],tmH e m s b lb lm (qv lb c x lb.length)⟩):=by
 intro z0 z1 z2 z8 z10 z13 z15 z16
 refine dm (fun j=>⟨[.und,.und,.und,.bp 1 0,.bp 2 0,.bp 3 0,.ref 4 0 lb.length,.ref 5 0 lm.length,.und,.bp 6 0,.und,I now,.t (tL c),.und,I j,.und,.und],tmH e m s b lb lm (qv lb c x j)⟩) lb.length rfl ?_ ?_ (by simp)
 · intro j hj
   have l2:=hl.1.2
   have k:=(A9 hl c h j (by omega)).1
   have r:=Yr hl k hj (Hf (nth c j))
   have ex:=um (l:=c) (k:=j) (by omega)
   show gF _ _ _ _=some ⟨_,tmH e m s b lb lm (yx lb (qv lb c x j) j (Hf (nth c j)))⟩
   generalize yx lb (qv lb c x j) j (Hf (nth c j))=y at*
   generalize qv lb c x j=x at*
   clear k h
   obtain⟨ae,roads⟩:=m
   obtain⟨time,st,since,pu,he⟩:=x
   obtain⟨time',st',since',pu',he'⟩:=y
   simp only[tmH,Lne.c,Lne.e,tL,tBs,DX,Kc,af,Hf]at*
   by_cases c2:nth c j=2
   · simp only[c2,decide_true,Bool.true_or]at r
     simp(disch:=omega)only[go_sem,K.kq,↓reduceIte,ex,c2,r,hn,List.length_map,reduceAdd,reduceSub]
   · have d2:=decide_eq_false c2
     simp only[d2,Bool.false_or]at r
     simp(disch:=omega)only[go_sem,K.kq,↓reduceIte,ex,c2,d2,r,hn,List.length_map,reduceAdd,reduceSub]
 · obtain⟨ae,roads⟩:=m
   simp only[tmH,Lne.c,DX,Kc,af]
   simp(disch:=omega)only[go_sem,K.kq,↓reduceIte,hn,reduceAdd,reduceSub]
theorem YG{x:Lne}(h:x.ok lb)(now:Int):∀z0 z1 z2 z8 z10 z12 z13 z14 z16:D,
 exS aW K.su ⟨[z0,z1,z2,.bp 1 0,.bp 2 0,.bp 3 0,.ref 4 0 lb.length,.ref 5 0 lm.length,z8,.bp 6 0,z10,I now,z12,z13,z14,I 0,z16],tmH e m s b lb lm x⟩=
  some (.exit 6,⟨[.und,.und,.und,.bp 1 0,.bp 2 0,.bp 3 0,.ref 4 0 lb.length,.ref 5 0 lm.length,.und,.bp 6 0,.und,I now,.und,.und,.und,I lb.length,.und],tmH e m s b lb lm (nE lb x lb.length)⟩):=by
 intro z0 z1 z2 z8 z10 z12 z13 z14 z16
 refine dm (fun j=>⟨[.und,.und,.und,.bp 1 0,.bp 2 0,.bp 3 0,.ref 4 0 lb.length,.ref 5 0 lm.length,.und,.bp 6 0,.und,I now,.und,.und,.und,I j,.und],tmH e m s b lb lm (nE lb x j)⟩) lb.length rfl ?_ ?_ (by simp)
 · intro j hj
   have l2:=hl.1.2
   have k:=(yl hl h j (by omega)).1
   have r:=VB hl k hj
   show gF _ _ _ _=some ⟨_,tmH e m s b lb lm (pW lb (nE lb x j) j)⟩
   generalize pW lb (nE lb x j) j=y at*
   generalize tZ lb (nE lb x j) j=er at*
   generalize nE lb x j=x at*
   clear k h
   obtain⟨ae,roads⟩:=m
   obtain⟨time,st,since,pu,he⟩:=x
   obtain⟨time',st',since',pu',he'⟩:=y
   simp only[tmH,Lne.c,Lne.e,tL,tBs,DX,Kc,af]at*
   simp(disch:=omega)only[go_sem,K.nI,↓reduceIte,r,hn,List.length_map,reduceAdd,reduceSub]
 · obtain⟨ae,roads⟩:=m
   simp only[tmH,Lne.c,DX,Kc,af]
   simp(disch:=omega)only[go_sem,K.nI,↓reduceIte,hn,reduceAdd,reduceSub]
theorem adZ(hm:mOK m lm)(hs:s.frm.length≤1000000)(hb:b.sz){x:Lne}(h:x.ok lb){now:Int}(n0:0≤now)(n1:now≤400)
 (hr:∀k,k<lb.length→nth x.st k≠0→Hf (xw (nth lm k) s b now 40)=false):∀z0 z1 z2 z8 z10 z12 z13 z14 z15:D,
 exS aW K.sx ⟨[z0,z1,z2,.bp 1 0,.bp 2 0,.bp 3 0,.ref 4 0 lb.length,.ref 5 0 lm.length,z8,.bp 6 0,z10,I now,z12,z13,z14,z15,I 0],tmH e m s b lb lm x⟩=
  some (.exit 8,⟨[.und,.und,.und,.bp 1 0,.bp 2 0,.bp 3 0,.ref 4 0 lb.length,.ref 5 0 lm.length,.und,.bp 6 0,.und,I now,.und,.und,.und,.und,I lb.length],tmH e m s b lb lm x⟩):=by
 intro z0 z1 z2 z8 z10 z12 z13 z14 z15
 refine dm (fun j=>⟨[.und,.und,.und,.bp 1 0,.bp 2 0,.bp 3 0,.ref 4 0 lb.length,.ref 5 0 lm.length,.und,.bp 6 0,.und,I now,.und,.und,.und,.und,I j],tmH e m s b lb lm x⟩) lb.length rfl ?_ ?_ (by simp)
 · intro j hj
   have l2:=hl.1.2
   have hs1:=h.s
   have ex:=um (l:=x.st) (k:=j) (by omega)
   have em:(lm.map Mch.e)[j]?=some (nth lm j).e:=iE _ (by omega)
   have hr:=hr j hj
   obtain⟨p,e1,p0,p1⟩:=hm j (by omega)
   have px:(nth lm j).pl.length≤1000000:=by rw[e1];simp
   have fi:=FX s (now+20) hs
   have dr:=XV m (nth lm j) px s hs b hb now 40 (by omega) (by omega)
   have pl:=FY s (now+20)
   have ha:=Qc (sW s (now+20)) p (by omega)
   by_cases c:nth x.st j=0
   · clear hr dr fi ha
     obtain⟨ae,roads⟩:=m
     obtain⟨time,st,since,pu,he⟩:=x
     simp only[tmH,Lne.c,Lne.e,tL,tBs,DX,Kc,af]at*
     simp(disch:=omega)only[go_sem,K.kr,↓reduceIte,ex,c,hn,List.length_map,reduceAdd,reduceSub]
   · have f:=VE (p:=p) (by rw[e1]) (hr c)
     rw[f.2]at dr
     rw[decide_eq_false f.1]at ha
     clear f hr
     generalize sW s (now+20)=r at*
     rw[e1]at em dr
     clear px
     obtain⟨ae,roads⟩:=m
     obtain⟨time,st,since,pu,he⟩:=x
     obtain⟨stime,frm⟩:=s
     obtain⟨ws⟩:=b
     simp only[tmH,Lne.c,Lne.e,tL,tBs,DX,Kc,af,Mch.e,List.map_cons,List.map_nil]at*
     simp(disch:=omega)only[go_sem,K.kr,↓reduceIte,ex,em,c,hn,fi,ha,dr,e1,tL,List.length_map,List.map_cons,List.map_nil,List.getElem?_cons_zero,reduceAdd,reduceSub]
 · obtain⟨ae,roads⟩:=m
   simp only[tmH,Lne.c,DX,Kc,af]
   simp(disch:=omega)only[go_sem,K.kr,↓reduceIte,hn,reduceAdd,reduceSub]
end
end Go.Ev
namespace Go.Ev
open Go
variable [Lib] [dM] [dh] [o6] [ns] [rP] [lz] [mM] [qI] [od] [kA] [km] [iG] [pL]
abbrev agA(e:aD)(m:bh)(s:Wh)(b:Bel)(lb:List Blt)(lm:List Mch)(pin:Bool)(x:Lne):ao:=
 [e.obj,.box (af m),.box [I s.time,.t (tL s.frm)],.box [.t (.sl (b.aK.map World.e))],DX lb,.arr 3 pin 0 ((lm.map Mch.e).map .t),.box x.c]
abbrev tmS(lb:List Blt)(lm:List Mch)(now:Int):List D:=[.und,.und,.und,.bp 1 0,.bp 2 0,.bp 3 0,.ref 4 0 lb.length,.ref 5 0 lm.length,.und,.bp 6 0,.und,I now,.und,.und,.und,.und,.und]
section
variable {e : aD} {m : bh} {s : Wh} {b : Bel} {lb : List Blt} {lm : List Mch} (hl : kz lb) (hn : lm.length = lb.length)
include hl hn
theorem aoI(hm:mOK m lm):afY m lm=true:=by
 have l2:=hl.1.2
 unfold afY
 rw[decide_eq_true (by omega),Bool.true_and,Bool.not_eq_true',List.any_eq_false]
 intro x hx
 obtain⟨j,hj,rfl⟩:=List.getElem_of_mem hx
 obtain⟨p,e1,p0,p1⟩:=hm j hj
 have e2:nth lm j=lm[j]:=bY (aLc hj)
 rw[← e2,e1]
 unfold ac7
 rw[J2 p0 p1]
 simp
 omega
theorem ad0(mo:m.ok)(hm:mOK m lm)(hs:s.frm.length≤1000000)(hv:oP m s=true)(hb:b.sz)(hw:yg m b=true){x:Lne}(h:x.ok lb)(ht:x.time=0):∀z0 z1 z2 z8 z10 z12 z13 z14 z15 z16:D,∃q,
 exS aW K.sy ⟨[z0,z1,z2,.bp 1 0,.bp 2 0,.bp 3 0,.ref 4 0 lb.length,.ref 5 0 lm.length,z8,.bp 6 0,z10,I 0,z12,z13,z14,z15,z16],agA e m s b lb lm false x⟩=some q∧
  ∃pin y,q=(.exit 2,⟨tmS lb lm 400,agA e m s b lb lm pin y⟩):=by
 intro z0 z1 z2 z8 z10 z12 z13 z14 z15 z16
 have mb:=aoI hl hn hm
 refine JV (fun j st=>∃pin y,y.ok lb∧y.time=20*(j:Int)∧st=⟨tmS lb lm (20*(j:Int)),agA e m s b lb lm pin y⟩) 20 _ ⟨false,x,h,by simpa using ht,rfl⟩ ?_ ?_
 · rintro j st hj ⟨pin,y,yo,yt,rfl⟩
   have l2:=hl.1.2
   have px:∀x∈lm,x.pl.length≤1000000:=by
    intro x hx
    obtain⟨k,hk,rfl⟩:=List.getElem_of_mem hx
    obtain⟨p,e1,p0,p1⟩:=hm k hk
    have e2:nth lm k=lm[k]:=bY (aLc hk)
    rw[← e2,e1];simp
   have cm:=X7 mo lm (by omega) px s hs b hb (20*(j:Int)) 40
   have cq:U9 m lm s b (20*(j:Int)) 40=(lm.map fun x=>xw x s b (20*(j:Int)) 40,0):=by
    unfold U9
    rw[if_pos ⟨mb,hv,hw⟩,if_pos (by omega)]
   rw[cq]at cm
   have cl:(lm.map fun x=>xw x s b (20*(j:Int)) 40).length=lb.length:=by rw[List.length_map];exact hn
   have cn:∀k,k<lb.length→nth (lm.map fun x=>xw x s b (20*(j:Int)) 40) k=xw (nth lm k) s b (20*(j:Int)) 40:=fun k hk=>bY (by
    rw[aLn,aLc (by omega:k<lm.length),bY (aLc (by omega:k<lm.length))];rfl)
   have rd:=Uw hl (lm.map fun x=>xw x s b (20*(j:Int)) 40) yo (t:=20*(j:Int)+20) (by omega) (by omega)
   have ho:=A9 hl (lm.map fun x=>xw x s b (20*(j:Int)) 40) yo lb.length (aLs _)
   have so:=yl hl ho.1 lb.length (aLs _)
   have k1:=adY (e:=e) (m:=m) (s:=s) (b:=b) hl hn yo cl (20*(j:Int))
   have k2:=YG (e:=e) (m:=m) (s:=s) (b:=b) hl hn ho.1 (20*(j:Int))
   have w:=Yv hl so.1 (t:=20*(j:Int)+20) (by rw[so.2.1,ho.2.1];omega) (by omega)
   have k3:=adZ (e:=e) (m:=m) (s:=s) (b:=b) hl hn hm hs hb rd.1 (now:=20*(j:Int)) (by omega) (by omega) (fun k hk hne=>by rw[← cn k hk];exact rd.2.2 k hk hne)
   unfold Mp at k3 rd
   have ln:=rd.1.s
   have tm:=rd.2.1
   refine⟨_,?_,true,Cy lb (nE lb (qv lb (lm.map fun x=>xw x s b (20*(j:Int)) 40) y lb.length) lb.length) (20*(j:Int)+20),rd.1,by rw[tm];push_cast;omega,rfl⟩
   clear rd so ho cn cq mb px yo yt h ht
   generalize Cy lb (nE lb (qv lb (lm.map fun x=>xw x s b (20*(j:Int)) 40) y lb.length) lb.length) (20*(j:Int)+20)=y3 at*
   generalize nE lb (qv lb (lm.map fun x=>xw x s b (20*(j:Int)) 40) y lb.length) lb.length=y2 at*
   generalize qv lb (lm.map fun x=>xw x s b (20*(j:Int)) 40) y lb.length=y1 at*
   generalize (lm.map fun x=>xw x s b (20*(j:Int)) 40)=c at*
   obtain⟨ae,roads⟩:=m
   obtain⟨stime,frm⟩:=s
   obtain⟨ws⟩:=b
   obtain⟨time1,st1,since1,pu1,he1⟩:=y1
   obtain⟨time2,st2,since2,pu2,he2⟩:=y2
   obtain⟨time3,st3,since3,pu3,he3⟩:=y3
   obtain⟨time,st,since,pu,he⟩:=y
   simp only[tmH,agA,tmS,Lne.c,Lne.e,tL,tBs,DX,Kc,af,show(20*((j+1:Nat):Int))=20*(j:Int)+20 by push_cast;omega]at*
   simp only[hn]at k1 k2 k3
   cases pin<;>simp(disch:=omega)only[go_sem,K.nJ,↓reduceIte,cm,k1,k2,k3,w,ln,cl,hn,List.length_map,reduceAdd,reduceSub]
 · rintro st ⟨pin,y,yo,yt,rfl⟩
   refine⟨_,?_,?_,pin,y,rfl⟩
   · obtain⟨ae,roads⟩:=m
     simp only[agA,tmS,Lne.c,DX,af]
     simp(disch:=omega)only[go_sem,K.nJ,↓reduceIte,reduceAdd,reduceSub]
     rfl
   · simp
end
theorem VG(aw:aW 0 N.kQ [] []=some (B true,[]))(li:List Int):aW 0 N.dX [.t (tL li)] []=some (B true,[]):=by
 refine aA K.pK rfl ?_
 have lo:=Xn li
 by_cases c:li.length≤400
 · simp only[c,decide_true]at lo
   have ro:=aja li
   have d0:(aD.mk li 0).dC:=c
   generalize (aD.mk li 0)=d at*
   obtain⟨m,e1,mo,l1,hm,p1,p2,r1,r2⟩:=ajb d0
   obtain⟨fl,e2,fo,l2,f1,f2⟩:=acF l1 hm
   obtain⟨s,e3,po,l3,s1,s2,s3,sv⟩:=YC l2 hm (by omega) f1 f2
   obtain⟨b,e4,np,bo,l4,bg,bv⟩:=YB l3 hm (by omega)
   obtain⟨v,e5,vo,l5,v0,v1⟩:=UB l4 4 (by omega) (by omega)
   obtain⟨k,rfl⟩:∃k:Nat,v=k:=⟨v.toNat,by omega⟩
   have sz:=bg.sz hm
   have bu:=YF l5 (m:=m) (by omega) (by omega) s b (N:=1+k) (by omega)
   have kk:((1+k:Nat):Int)=1+(k:Int):=by push_cast;rfl
   rw[kk]at bu
   generalize hN:1+k=n at*
   refine Exists.elim (bu (.t (tL li)) (B false) .und .und .und .und .und .und .und .und) ?_
   rintro q ⟨bq,st,rfl,e6,lb,lm,l6,n1,n2,bk,mk,rfl⟩
   have hl:kz lb:=⟨⟨by omega,bk.1⟩,bk.2⟩
   have mz:=Ym lb
   have mak:=Yn hl
   obtain⟨q2,mq,pin,y,rfl⟩:=ad0 (e:=e6) hl (by omega) hm mk (by omega) sv sz bv mz rfl .und .und (.bp 0 0) (I ((n:Int)-n)) (I 0) .und .und .und .und .und
   clear bk mk bu bg bv sv mz
   subst hN
   generalize Hp lb.length=z at*
   obtain⟨ae,roads⟩:=m
   obtain⟨stime,frm⟩:=s
   obtain⟨ws⟩:=b
   obtain⟨time,st,since,pu,he⟩:=y
   obtain⟨time2,st2,since2,pu2,he2⟩:=z
   simp only[agA,tmS,Lne.c,Lne.e,tL,tBs,DX,ajA,ajB,af,List.map_nil]at*
   simp only[n1,n2,kk]at mq
   simp(disch:=omega)only[go_sem,K.dX,↓reduceIte,lo,ro,mo,fo,po,bo,vo,kk,bq,mak,mq,aw,n1,n2,List.length_map,reduceAdd,reduceSub]
 · simp only[c,decide_false]at lo
   simp(disch:=omega)only[go_sem,K.dX,↓reduceIte,lo,aw,reduceAdd,reduceSub]
end Go.Ev
namespace Go.Ev.K
open Go.Ev
def Gl:C:= (.its [u (.bin .lss v13 v12)] [] 0 .skip (.exit 1) (.seq (.blk 2 (q [a 1 v11 v13,g l0,x 8 l0] [] (q [h 2 v4,m v8,m v3,u (.ca N.j7 0 [] [.l 2,.l 1,.l 0]),m l0,u (.ex l0 0),u (.ex l1 1),w 9 (.al [z0,.nil] []),u (.st l0 l2 2 []),x 10 l2] [] (.seq (.ite [m v10,u (.bin .neq l0 (.i 0))] [] 0 (q [u (.bd [.nil] []),m v10,u (.st v5 l1 1 []),x 6 l1] [] .ret) .skip) (.reg [f 1 v7,g l0,h 2 v9,u (.bs [.l 0] 2),u (.app l2 l0 true 2),f 1 v7,u (.st l0 l1 1 [])] []))))) (.reg [u (.bin .add v13 (.i 1)),x 13 l0] [])))
def Hq:C:= .loop true [0,1,2,6,8,9,10] K.Gl
def lV:Fn:= { av:=4,vars:=[0,1,2,3,4,8,9,10,12,13,14,41,42,43],body:=(q [w 4 (.bx v0 2),w 5 (.al [.nil] []),x 6 (.i 0)] [] (.seq (.blk 0 (.ite [h 2 v4,u (.ca N.cM 0 [] [.l 0]),u (.un .not l0),m l0,e 0 false v1,y 1 false (.ln l0),e 2 false v2,y 3 false (.ln l0),y 4 false (.bin .neq l2 l0),u (.pk l5 (.b true) l0),m l0,e 0 false v1,y 1 false (.ln l0),y 2 false (.ca N.aU 0 [] [.l 0,.i 1,.i 12]),y 3 false (.un .not l0),u (.pk l4 (.b true) l0),m l0] [] 0 (q [u (.bd [.nil] []),u (.st v5 l0 1 []),x 6 (.i 6)] [] .ret) (.ite [m v1,u (.ca N.gj 0 [] [.l 0]),u (.un .not l0),m l0] [] 0 (q [u (.bd [.nil] []),u (.st v5 l0 1 []),x 6 (.i 41)] [] .ret) .skip))) (q [m v1,u (.ca N.ah 0 [] [.l 0]),u (.bd [.nil,.nil] [(0,1,.l 0)]),w 7 (.al [.nil,.nil] [(1,2)]),u (.st l0 l1 2 [(1,2)])] [] (.seq (q [x 11 v2,w 12 (.ln l0),x 13 (.i 0)] [] (.blk 1 K.Hq)) (q [h 2 v7,u (.bs [.l 0] 2),u (.bd [.nil] [(0,1,.l 0)]),u (.st v5 l0 1 []),x 6 (.i 0)] [] .ret))))),res:=[(5,some (1,true)),(6,none)]}
end Go.Ev.K
namespace Go.Ev
class ad1 [Lib]:Prop where
 BA:Lib.fs N.lV=some K.lV
namespace K
variable [Lib] [ad1]
theorem BA:Lib.fs N.lV=some K.lV:=ad1.BA
end K
end Go.Ev
namespace Go.Ev.K
open Go.Ev
def Gm:C:= (.its [u (.bin .lss v7 v6)] [] 0 .skip (.exit 0) (.seq (.blk 1 (q [a 2 v5 v7,h 2 l0,w 4 (.al [z0,.nil] []),u (.st l0 l1 2 [])] [] (.reg [f 1 v3,g l0,f 0 v4,g l0,f 1 v4,g l0,u (.ca N.ah 0 [] [.l 0]),u (.bd [z0,.nil] [(0,1,.l 3),(1,1,.l 0)]),u (.bs [.l 0] 2),u (.app l7 l0 true 2),f 1 v3,u (.st l0 l1 1 [])] [(1,7),(1,9),(3,7)]))) (.reg [u (.bin .add v7 (.i 1)),x 7 l0] [])))
def Hr:C:= .loop true [0,1,4] K.Gm
def lW:Fn:= { av:=1,vars:=[0,1,2,3,5,11,12,13],body:=(q [w 1 (.bx v0 2),w 2 (.al [.nil,.nil] [])] [] (q [f 0 v1,g l0,u (.ca N.ah 0 [] [.l 0]),u (.bd [.nil,.nil] [(0,1,.l 0)]),w 3 (.al [.nil,.nil] [(1,2)]),u (.st l0 l1 2 [(1,2)])] [] (.seq (q [f 1 v1,w 5 (.ld l0 1 false),w 6 (.ln l0),x 7 (.i 0)] [] (.blk 0 K.Hr)) (q [h 2 v3,u (.st v2 l0 2 [])] [] .ret)))),res:=[(2,some (2,true))]}
def Gn:C:= (.its [u (.bin .lss v11 v10)] [] 0 .skip (.exit 2) (.seq (.blk 3 (q [m v11,x 6 l0] [] (.reg [m v3,m v5,u (.bin .sub l0 (.i 1)),a 2 l2 l0,f 1 l0,g l0,m v6,m v3,m v5,u (.bin .sub l0 (.i 1)),a 2 l2 l0,f 1 l0,g l0,m v6,a 2 l1 l0,h 2 l0,f 1 v4,g l0,m v6,a 2 l1 l0,h 2 l0,u (.ca N.lO 0 [] [.l 5,.l 0]),m l0,u (.ex l0 0),u (.ex l1 1),a 2 (.l 19) (.l 18),u (.st l0 l2 2 [])] [(3,22),(5,22)]))) (.reg [u (.bin .add v11 (.i 1)),x 11 l0] [])))
def Ht:C:= .loop false [0,1,2,6] K.Gn
def Gp:C:= (.its [u (.bin .lss v9 v8)] [] 0 .skip (.exit 0) (.seq (.blk 1 (q [a 2 v7 v9,h 2 l0,w 4 (.al [.nil,.nil] []),u (.st l0 l1 2 [])] [] (.seq (q [m v3,u (.ln l0),x 5 l0] [] (.ite [m v5,u (.bin .gtr l0 (.i 0)),m l0,e 0 true v3,e 1 true v5,y 2 true (.bin .sub l0 (.i 1)),y 3 true (.ia l2 l0 2),y 4 true (.fa l0 0),i 5 true l0,y 6 true (.fa v4 0),i 7 true l0,y 8 true (.ca N.bw 0 [] [.l 2,.l 0]),u (.pk l9 l0 (.b false))] [] 0 (.seq (q [f 1 v4,g l0,w 10 (.ln l0),x 11 (.i 0)] [] (.blk 2 K.Ht)) (.exit 1)) .skip)) (.reg [m v3,h 2 v4,u (.ca N.fP 1 [] [.l 0]),u (.bsr [.l 0] 2),u (.app l3 l0 false 2),x 3 l0] [])))) (.reg [u (.bin .add v9 (.i 1)),x 9 l0] [])))
def Hu:C:= .loop false [0,1,2,4,5,6,10,11] K.Gp
def lX:Fn:= { av:=1,vars:=[0,2,3,4,6,7,8,12,13,14,35,36],body:=(q [w 1 (.mv (.c (.nil)))] [] (q [m v0,u (.ca N.bA 0 [] [.l 0]),u (.ca N.bz 0 [] [.l 0,.c (.fn N.iR [])]),x 2 l0] [] (q [w 3 (.nw 2)] [] (.seq (q [x 7 v2,w 8 (.ln l0),x 9 (.i 0)] [] (.blk 0 K.Hu)) (q [m v3,x 1 l0] [] .ret))))),res:=[(1,none)]}
def bz:Fn:= { av:=2,vars:=[0,1,4,5],body:=(q [w 2 (.mv (.c (.nil)))] [] (q [m v0,u (.ca N.b5 1 [] [.l 0]),x 3 l0] [] (q [m v3,m v1,u (.ca N.aQ 0 [0] [.l 1,.l 0])] [] (q [m v3,x 2 l0] [] .ret)))),res:=[(2,none)]}
def bA:Fn:= { av:=1,vars:=[0,1,2],body:=(q [w 1 (.bx v0 1),w 2 (.mv (.c (.und)))] [] (q [u (.mf N.aI [.v 1]),x 2 l0] [] .ret)),res:=[(2,none)]}
def iR:Fn:= { av:=2,vars:=[0,1,2,3,4],body:= .fail,res:=[(4,none)]}
def b5:Fn:= { av:=1,vars:=[2],body:= .fail,res:=[(0,none)],prim:=[3,N.aI]}
def aQ:Fn:= { av:=2,vars:=[0,1],body:=(.reg [m v0,m v0,u (.ln l0),m v1,u (.ca N.bG 0 [0] [.l 3,.l 1,.l 0])] []),res:=[]}
def aI:Fn:= { av:=2,vars:=[0,1,4,5,6,7],body:= .fail,res:=[]}
def oe:C:= (.seq (.ite [m v5,m v1,u (.bin .leq l1 l0)] [] 0 .skip (.exit 0)) (.blk 1 (q [m v0,m v4,m v5,m v2,u (.ca N.aR 0 [0] [.l 3,.l 2,.l 1,.l 0])] [] (q [m v5,x 4 l0] [] (.reg [m v5,m v3,u (.bin .add l1 l0),x 5 l0] [])))))
def oY:C:= .loop true [6] K.oe
def oh:C:= (.seq (.ite [m v5,m v1,u (.bin .leq l1 l0)] [] 0 .skip (.exit 4)) (.blk 5 (q [m v0,m v4,m v4,m v3,u (.bin .add l1 l0),m v5,m v2,u (.ca N.a8 0 [0] [.l 6,.l 5,.l 2,.l 1,.l 0])] [] (q [m v5,x 4 l0] [] (.reg [m v5,m v3,u (.bin .mul (.i 2) l0),u (.bin .add l2 l0),x 5 l0] [])))))
def oZ:C:= .loop true [6] K.oh
def om:C:= (.seq (.ite [m v3,m v1,u (.bin .lss l1 l0)] [] 0 .skip (.exit 2)) (.blk 3 (q [m v3,u (.bin .mul (.i 2) l0),x 4 (.i 0),x 5 l1] [] (.seq (.blk 4 K.oZ) (.seq (q [m v4,m v3,u (.bin .add l1 l0),x 6 l0] [] (.ite [m v6,m v1,u (.bin .lss l1 l0)] [] 0 (.reg [m v0,m v4,m v6,m v1,m v2,u (.ca N.a8 0 [0] [.l 4,.l 3,.l 2,.l 1,.l 0])] []) .skip)) (.reg [m v3,u (.bin .mul l0 (.i 2)),x 3 l0] []))))))
def o4:C:= .loop true [4,5,6] K.om
def bG:Fn:= { av:=3,vars:=[0,1,2,6,7,8,9],body:=(q [x 3 (.i 20)] [] (q [m v3,x 4 (.i 0),x 5 l1] [] (.seq (.blk 0 K.oY) (q [m v0,m v4,m v1,m v2,u (.ca N.aR 0 [0] [.l 3,.l 2,.l 1,.l 0])] [] (.blk 2 K.o4))))),res:=[]}
def kY:C:= (.seq (.ite [m v5,m v1,u (.bin .gtr l1 l0),m l0,e 0 true v3,e 1 true v0,e 2 true v5,y 3 true (.ia l1 l0 2),y 4 true (.ld l0 2 true),e 5 true v0,e 6 true v5,y 7 true (.bin .sub l0 (.i 1)),y 8 true (.ia l2 l0 2),y 9 true (.ld l0 2 true),y 10 true (.cw l9 0 [] [.l 5,.l 0]),y 11 true (.bin .lss l0 (.i 0)),u (.pk (.l 12) l0 (.b false))] [] 0 .skip (.exit 2)) (.seq (.blk 3 (.reg [m v0,m v5,m v0,m v5,u (.bin .sub l0 (.i 1)),m v0,m v5,u (.bin .sub l0 (.i 1)),a 2 l2 l0,h 2 l0,m v0,m v5,a 2 l1 l0,h 2 l0,a 2 (.l 13) (.l 12),u (.st l0 l5 2 []),a 2 (.l 13) l11,u (.st l0 l3 2 [])] [])) (.reg [m v5,u (.bin .sub l0 (.i 1)),x 5 l0] [])))
def lA:C:= .loop true [] K.kY
def kZ:C:= (.seq (.ite [m v4,m v2,u (.bin .lss l1 l0)] [] 0 .skip (.exit 0)) (.seq (.blk 1 (q [m v4,x 5 l0] [] (.blk 2 K.lA))) (.reg [m v4,u (.bin .add l0 (.i 1)),x 4 l0] [])))
def lB:C:= .loop true [5] K.kZ
def aR:Fn:= { av:=4,vars:=[0,1,2,3,8,9],body:=(q [m v1,u (.bin .add l0 (.i 1)),x 4 l0] [] (.blk 0 K.lB)),res:=[]}
def a8:Fn:= { av:=5,vars:=[0,1,2,3,4,10,11,12,13,14,15,16,17,18,19,20,21,22,23,24],body:= .fail,res:=[]}
def BB:C:= (.its [u (.bin .lss v7 v6)] [] 0 .skip (.exit 0) (.seq (.blk 1 (q [a 2 v5 v7,h 2 l0,w 4 (.al [z0,.nil] []),u (.st l0 l1 2 [])] [] (.reg [f 1 v3,g l0,f 0 v4,g l0,f 1 v4,g l0,u (.ca N.ah 1 [] [.l 0]),u (.bd [z0,.nil] [(0,1,.l 3),(1,1,.l 0)]),u (.bs [.l 0] 2),u (.app l7 l0 true 2),f 1 v3,u (.st l0 l1 1 [])] [(1,7),(1,9),(3,7)]))) (.reg [u (.bin .add v7 (.i 1)),x 7 l0] [])))
def CG:C:= .loop true [0,1,4] K.BB
def fP:Fn:= { av:=1,vars:=[0,1,2,3,5,11,12,13],body:=(q [w 1 (.bx v0 2),w 2 (.al [.nil,.nil] [])] [] (q [f 0 v1,g l0,u (.ca N.ah 1 [] [.l 0]),u (.bd [.nil,.nil] [(0,1,.l 0)]),w 3 (.al [.nil,.nil] [(1,2)]),u (.st l0 l1 2 [(1,2)])] [] (.seq (q [f 1 v1,w 5 (.ld l0 1 false),w 6 (.ln l0),x 7 (.i 0)] [] (.blk 0 K.CG)) (q [h 2 v3,u (.st v2 l0 2 [])] [] .ret)))),res:=[(2,some (2,true))]}
end Go.Ev.K
namespace Go.Ev
class BD [Lib]:Prop where
 BE:Lib.fs N.lW=some K.lW
 BF:Lib.fs N.lX=some K.lX
 iu:Lib.fs N.bz=some K.bz
 iv:Lib.fs N.bA=some K.bA
 xO:Lib.fs N.iR=some K.iR
 mN:Lib.fs N.b5=some K.b5
 fk:Lib.fs N.aQ=some K.aQ
 gH:Lib.fs N.aI=some K.aI
 ju:Lib.fs N.bG=some K.bG
 gq:Lib.fs N.aR=some K.aR
 iz:Lib.fs N.a8=some K.a8
 vS:Lib.fs N.fP=some K.fP
namespace K
variable [Lib] [BD]
theorem BE:Lib.fs N.lW=some K.lW:=BD.BE
theorem BF:Lib.fs N.lX=some K.lX:=BD.BF
theorem iu:Lib.fs N.bz=some K.bz:=BD.iu
theorem iv:Lib.fs N.bA=some K.bA:=BD.iv
theorem xO:Lib.fs N.iR=some K.iR:=BD.xO
theorem mN:Lib.fs N.b5=some K.b5:=BD.mN
theorem fk:Lib.fs N.aQ=some K.aQ:=BD.fk
theorem gH:Lib.fs N.aI=some K.aI:=BD.gH
theorem ju:Lib.fs N.bG=some K.bG:=BD.ju
theorem gq:Lib.fs N.aR=some K.aR:=BD.gq
theorem iz:Lib.fs N.a8=some K.a8:=BD.iz
theorem vS:Lib.fs N.fP=some K.fP:=BD.vS
end K
end Go.Ev
namespace Go.Ev.K
open Go.Ev
def Kd:C:= (.its [u (.bin .lss (.v 24) v23)] [] 0 .skip (.exit 2) (.seq (.blk 3 (q [m (.v 24),a 2 v22 (.v 24),h 2 l0,w 16 (.al [z0,.nil] []),x 15 l3,u (.st l1 l2 2 [])] [] (q [h 2 v9,h 2 v16,g v6,u (.ca N.p8 0 [] [.l 2,.l 1,.l 0]),m l0,u (.ex l0 0),u (.ex l1 1),w 17 (.al [z0,.nil] []),u (.st l0 l2 2 []),x 18 l2] [] (.seq (.ite [m v18,u (.bin .neq l0 (.i 0))] [] 0 (q [h 1 v5,m v18,u (.st v7 l1 1 []),x 8 l1] [] .ret) .skip) (.reg [f 1 v14,g l0,m v15,h 2 v17,a 2 l2 l1,u (.st l0 l1 2 [])] []))))) (.reg [u (.bin .add (.v 24) (.i 1)),x 24 l0] [])))
def MM:C:= .loop true [0,1,2,3,4,8,10,11,13,15,16,17,18] K.Kd
def Ke:C:= (.its [u (.bin .lss v21 v20)] [] 0 .skip (.exit 0) (.seq (.blk 1 (q [a 2 v19 v21,h 2 l0,w 13 (.al [.nil,.nil] []),u (.st l0 l1 2 [])] [] (q [h 2 v13,u (.ca N.fP 1 [] [.l 0]),w 14 (.al [.nil,.nil] []),u (.st l0 l1 2 [])] [] (.seq (q [f 1 v13,w 22 (.ld l0 1 false),w 23 (.ln l0),x 24 (.i 0)] [] (.blk 2 K.MM)) (.reg [m v12,h 2 v14,u (.bs [.l 0] 2),u (.app l2 l0 true 2),x 12 l0] []))))) (.reg [u (.bin .add v21 (.i 1)),x 21 l0] [])))
def MN:C:= .loop true [0,1,2,3,4,8,10,11,13,14,15,16,17,18,22,23,24] K.Ke
def p7:Fn:= { av:=4,vars:=[0,1,2,3,4,5,7,8,9,10,11,12,13,15,16,17,18,19,20,47,48,49,56,57,58],body:=(q [w 4 (.bx v0 2),w 5 (.bx v1 1),w 6 (.bx v3 1),w 7 (.al [.nil] []),x 8 (.i 0)] [] (.seq (.ite [h 2 v4,h 1 v5,u (.ca N.fL 0 [] [.l 1,.l 0]),u (.un .not l0)] [] 0 (q [h 1 v5,u (.st v7 l0 1 []),x 8 (.i 6)] [] .ret) .skip) (q [h 2 v4,m v2,u (.ca N.lY 0 [] [.l 1,.l 0]),m l0,u (.ex l0 0),u (.ex l1 1),w 9 (.al [.nil,.nil] []),u (.st l0 l2 2 []),x 10 l2] [] (.seq (.ite [m v10,u (.bin .neq l0 (.i 0))] [] 0 (q [h 1 v5,m v10,u (.st v7 l1 1 []),x 8 l1] [] .ret) .skip) (q [u (.mf N.lZ [.v 6]),x 11 l0] [] (.seq (.ite [g v6,u (.bin .gtr l0 (.i 2147483648)),m l0,y 0 false (.fa v5 0),i 1 false l0,e 2 false v11,y 3 false (.ca N.ax 0 [] [.l 1,.l 0]),u (.pk l4 (.b true) l0)] [] 0 (q [h 1 v5,u (.st v7 l0 1 []),x 8 (.i 8)] [] .ret) .skip) (q [w 12 (.nw 2)] [] (.seq (q [f 0 v5,w 19 (.ld l0 1 false),w 20 (.ln l0),x 21 (.i 0)] [] (.blk 0 K.MN)) (q [m v12,u (.ca N.lX 0 [] [.l 0]),u (.bd [.nil] [(0,1,.l 0)]),u (.st v7 l0 1 []),x 8 (.i 0)] [] .ret))))))))),res:=[(7,some (1,true)),(8,none)]}
def Gq:C:= (.its [u (.bin .lss v9 v8)] [] 0 .skip (.exit 1) (.seq (.blk 2 (q [a 1 v7 v9,g l0,x 6 l0] [] (.reg [f 1 v5,g l0,m v6,a 10 l1 l0,f 4 l0,u (.st l0 (.b false) 1 [])] []))) (.reg [u (.bin .add v9 (.i 1)),x 9 l0] [])))
def Hv:C:= .loop true [0,1,2,4,6] K.Gq
def lY:Fn:= { av:=2,vars:=[0,1,2,4,5,6,8,30,31,32],body:=(q [w 2 (.bx v0 2),w 3 (.al [.nil,.nil] []),x 4 (.i 0)] [] (.seq (.blk 0 (.ite [h 2 v2,u (.ca N.cM 0 [] [.l 0]),u (.un .not l0),m l0] [] 0 (q [u (.bd [.nil,.nil] []),u (.st v3 l0 2 []),x 4 (.i 6)] [] .ret) (.ite [m v1,f 1 v2,g l0,u (.ln l0),u (.bin .sub l0 (.i 1)),u (.ca N.bZ 0 [] [.l 4,.i 0,.l 0]),u (.un .not l0),m l0] [] 0 (q [u (.bd [.nil,.nil] []),u (.st v3 l0 2 []),x 4 (.i 4)] [] .ret) .skip))) (q [w 5 (.al [.nil,.nil] []),f 0 v2,g l0,u (.ca N.aP 0 [] [.l 0]),f 1 v2,g l0,u (.ca N.aS 1 [] [.l 0]),u (.bd [.nil,.nil] [(0,1,.l 3),(1,1,.l 0)]),u (.st l7 l0 2 [])] [(0,4),(0,7),(5,1)] (.seq (q [x 7 v1,w 8 (.ln l0),x 9 (.i 0)] [] (.blk 1 K.Hv)) (q [h 2 v5,u (.st v3 l0 2 []),x 4 (.i 0)] [] .ret))))),res:=[(3,some (2,true)),(4,none)]}
def lZ:Fn:= { av:=2,vars:=[0,1,2,3],body:=(q [w 2 (.bx v0 2),x 3 (.b false)] [] (q [f 1 v2,g l0,u (.mf N.iS [.v 1]),u (.ca N.ak 0 [] [.l 1,.l 0]),x 3 l0] [] .ret)),res:=[(3,none)]}
def iS:Fn:= { av:=2,vars:=[0,1,2,3],body:=(q [w 2 (.bx v0 2),x 3 (.b false)] [] (q [g v1,f 0 v2,g l0,u (.bin .lss l2 l0),x 3 l0] [] .ret)),res:=[(3,none)]}
def Kf:C:= (.its [u (.bin .lss v11 v10)] [] 0 .skip (.exit 0) (.seq (.blk 1 (q [a 1 v9 v11,g l0,x 8 l0] [] (.reg [m v7,m v8,f 1 v4,g l0,m v8,a 1 l1 l0,g l0,a 1 l6 l5,u (.st l0 l1 1 [])] []))) (.reg [u (.bin .add v11 (.i 1)),x 11 l0] [])))
def MO:C:= .loop true [0,1,6,8] K.Kf
def p8:Fn:= { av:=3,vars:=[0,1,2,3,4,6,7,8,10,18,19,20],body:=(q [w 3 (.bx v0 2),w 4 (.bx v1 2),w 5 (.al [z0,.nil] []),x 6 (.i 0)] [] (q [u (.bs [.i 1099511627776] 1),f 1 v4,g l0,u (.ln l0),u (.ca N.bQ 1 [] [.l 3,.l 0]),x 7 l0] [] (.seq (q [h 2 v4,m v2,w 9 (.ca N.eZ 0 [] [.l 1,.l 0]),w 10 (.ln l0),x 11 (.i 0)] [] (.blk 0 K.MO)) (q [h 2 v3,f 0 v4,g l0,m v7,u (.bd [z0,.nil] [(0,1,.l 1),(1,1,.l 0)]),m v2,u (.ca N.j8 0 [] [.l 5,.l 1,.l 0]),u (.ex l0 0),u (.ex l1 1),u (.st v5 l1 2 []),x 6 l1] [] .ret)))),res:=[(5,some (2,true)),(6,none)]}
end Go.Ev.K
namespace Go.Ev
class Pb [Lib]:Prop where
 Gr:Lib.fs N.p7=some K.p7
 BG:Lib.fs N.lY=some K.lY
 BH:Lib.fs N.lZ=some K.lZ
 xP:Lib.fs N.iS=some K.iS
 Gs:Lib.fs N.p8=some K.p8
namespace K
variable [Lib] [Pb]
theorem Gr:Lib.fs N.p7=some K.p7:=Pb.Gr
theorem BG:Lib.fs N.lY=some K.lY:=Pb.BG
theorem BH:Lib.fs N.lZ=some K.lZ:=Pb.BH
theorem xP:Lib.fs N.iS=some K.iS:=Pb.xP
theorem Gs:Lib.fs N.p8=some K.p8:=Pb.Gs
end K
end Go.Ev
namespace Go.Ev.K
open Go.Ev
def aP:Fn:= { av:=1,vars:=[0,2],body:=(q [w 1 (.mv (.c (.nil)))] [] (.itk [m v0,u (.eqk (.sl) false l0 (.c (.nil)))] [] 0 (q [w 1 (.nw 2)] [] .ret) .skip (q [u (.bsr [] 2),m v0,u (.app l1 l0 false 2),x 1 l0] [] .ret))),res:=[(1,none)]}
def aS:Fn:= { av:=1,vars:=[0,2],body:=(q [w 1 (.mv (.c (.nil)))] [] (.itk [m v0,u (.eqk (.sl) false l0 (.c (.nil)))] [] 0 (q [w 1 (.nw 10)] [] .ret) .skip (q [u (.bsr [] 10),m v0,u (.app l1 l0 false 10),x 1 l0] [] .ret))),res:=[(1,none)]}
end Go.Ev.K
namespace Go.Ev
class YH [Lib]:Prop where
 iA:Lib.fs N.aP=some K.aP
 jv:Lib.fs N.aS=some K.aS
namespace K
variable [Lib] [YH]
theorem iA:Lib.fs N.aP=some K.aP:=YH.iA
theorem jv:Lib.fs N.aS=some K.aS:=YH.jv
end K
end Go.Ev
namespace Go.Ev.K
open Go.Ev
def Gt:C:= (.its [u (.bin .lss v13 v12)] [] 0 .skip (.exit 1) (.seq (.blk 2 (q [a 1 v11 v13,g l0,x 10 l0] [] (.reg [f 3 v9,g l0,m v10,u (.bd [z0,z0,z0] [(0,1,.l 0),(1,1,.i (-1))]),u (.bs [.l 0] 3),u (.app l3 l0 true 3),f 3 v9,u (.st l0 l1 1 [])] []))) (.reg [u (.bin .add v13 (.i 1)),x 13 l0] [])))
def Hw:C:= .loop true [0,2,3,4,5,7,10,14,15] K.Gt
def Gu:C:= (.its [u (.bin .lss v15 v14)] [] 0 .skip (.exit 3) (.seq (.blk 4 (.reg [f 6 v9,g l0,u (.bs [.i (-1)] 1),u (.app l1 l0 true 1),f 7 v9,g l0,u (.bs [.i (-1)] 1),u (.app l1 l0 true 1),f 8 v9,g l0,m v8,u (.mkt l0 (.int .i64 (0)) 1),u (.bs [.l 0] 1),u (.app l3 l0 true 1),f 6 v9,u (.st l0 l11 1 []),f 7 v9,u (.st l0 l9 1 []),f 8 v9,u (.st l0 l5 1 [])] [(2,2),(5,0),(6,0),(9,0),(9,4),(11,0),(11,4),(12,0),(12,4)])) (.reg [u (.bin .add v15 (.i 1)),x 15 l0] [])))
def Hx:C:= .loop true [0,1,2,3,4,5,7,10,11,12,13] K.Gu
def ma:Fn:= { av:=5,vars:=[0,1,2,3,4,5,10,11,12,13,15,55,56,57,70,71],body:=(q [w 5 (.bx v0 2),w 6 (.al [.nil,.nil,z0,.nil,.nil,.nil,.nil,.nil,.nil] []),x 7 (.i 0)] [] (q [m v2,u (.ln l0),x 8 l0] [] (.seq (.blk 0 (.ite [h 2 v5,m v1,u (.ca N.fe 0 [] [.l 1,.l 0]),u (.un .not l0),m l0,e 0 false v3,y 1 false (.ln l0),e 2 false v8,y 3 false (.bin .neq l1 l0),u (.pk l4 (.b true) l0),m l0,e 0 false v8,y 1 false (.ca N.aU 0 [] [.l 0,.i 1,.i 12]),y 2 false (.un .not l0),u (.pk l3 (.b true) l0),m l0] [] 0 (q [u (.bd [.nil,.nil,z0,.nil,.nil,.nil,.nil,.nil,.nil] []),u (.st v6 l0 9 []),x 7 (.i 6)] [] .ret) (.ite [m v2,u (.mf N.iT [.v 5]),u (.ca N.aq 0 [] [.l 1,.l 0]),m l0] [] 0 (q [u (.bd [.nil,.nil,z0,.nil,.nil,.nil,.nil,.nil,.nil] []),u (.st v6 l0 9 []),x 7 (.i 3)] [] .ret) (.ite [m v3,u (.ca N.iU 0 [] [.l 0]),u (.un .not l0),m l0] [] 0 (q [u (.bd [.nil,.nil,z0,.nil,.nil,.nil,.nil,.nil,.nil] []),u (.st v6 l0 9 []),x 7 (.i 41)] [] .ret) (.ite [m v4,u (.ca N.aU 0 [] [.l 0,.i 0,.i 2147483648]),u (.un .not l0),m l0] [] 0 (q [u (.bd [.nil,.nil,z0,.nil,.nil,.nil,.nil,.nil,.nil] []),u (.st v6 l0 9 []),x 7 (.i 8)] [] .ret) .skip))))) (q [h 2 v5,m v4,m v3,m v1,u (.bd [.nil,.nil,z0,.nil,.nil,.nil,.nil,.nil,.nil] [(0,2,.l 3),(2,1,.l 2),(4,1,.l 1),(5,1,.l 0)]),w 9 (.al [.nil,.nil,z0,.nil,.nil,.nil,.nil,.nil,.nil] [(3,3),(6,1),(7,1),(8,1)]),u (.st l0 l1 9 [(3,3),(6,1),(7,1),(8,1)])] [] (.seq (q [x 11 v2,w 12 (.ln l0),x 13 (.i 0)] [] (.blk 1 K.Hw)) (.seq (q [m v1,w 14 (.ln l0),x 15 (.i 0)] [] (.blk 3 K.Hx)) (q [h 9 v9,u (.ca N.j9 0 [] [.l 0]),u (.st v6 l0 9 []),x 7 (.i 0)] [] .ret))))))),res:=[(6,some (9,true)),(7,none)]}
def mh:Fn:= { av:=4,vars:=[0,1,2,3,4,8,9,10,11,12,13],body:= .fail,res:=[(5,some (9,true)),(6,none)]}
def Hy:C:= (.its [u (.bin .lss v10 v9)] [] 0 .skip (.exit 1) (.seq (.blk 2 (q [m v10,a 3 v8 v10,h 3 l0,w 7 (.al [z0,z0,z0] []),x 6 l3,u (.st l1 l2 3 [])] [] (.seq (.ite [f 1 v7,g l0,u (.bin .lss l0 (.i 0))] [] 0 (.exit 2) .skip) (.seq (q [f 2 v7,g l0,m v1,u (.bin .sub l1 l0),f 2 v7,u (.st l0 l1 1 [])] [] (.ite [f 2 v7,g l0,u (.bin .leq l0 (.i 0))] [] 0 (.reg [f 0 v2,h 2 l0,f 1 v7,g l0,f 0 v7,g l0,u (.ca N.nZ 0 [] [.l 4,.l 2,.l 0]),u (.bd [z0,z0,z0] [(0,1,.l 0),(1,1,.i (-1))]),u (.st v7 l0 3 [])] []) .skip)) (.reg [f 3 v5,g l0,m v6,h 3 v7,a 3 l2 l1,u (.st l0 l1 3 [])] []))))) (.reg [u (.bin .add v10 (.i 1)),x 10 l0] [])))
def Kg:C:= .loop true [0,4,6,7] K.Hy
def nY:Fn:= { av:=2,vars:=[0,1,2,4,5,6,7,8,34,35,36],body:=(q [w 2 (.bx v0 9),w 3 (.al [.nil,.nil,z0,.nil,.nil,.nil,.nil,.nil,.nil] []),x 4 (.i 0)] [] (.seq (.blk 0 (.ite [h 9 v2,u (.ca N.ko 0 [] [.l 0]),u (.un .not l0),m l0] [] 0 (q [h 9 v2,u (.st v3 l0 9 []),x 4 (.i 6)] [] .ret) (.ite [m v1,u (.ca N.aU 0 [] [.l 0,.i 0,.i 3600]),u (.un .not l0),m l0] [] 0 (q [h 9 v2,u (.st v3 l0 9 []),x 4 (.i 1)] [] .ret) (.ite [f 2 v2,g l0,m v1,u (.bin .add l1 l0),u (.bin .gtr l0 (.i 2147483648)),m l0] [] 0 (q [h 9 v2,u (.st v3 l0 9 []),x 4 (.i 8)] [] .ret) .skip)))) (q [h 9 v2,u (.ca N.gk 1 [] [.l 0]),w 5 (.al [.nil,.nil,z0,.nil,.nil,.nil,.nil,.nil,.nil] []),u (.st l0 l1 9 [])] [] (q [f 2 v5,g l0,m v1,u (.bin .add l1 l0),f 2 v5,u (.st l0 l1 1 [])] [] (.seq (q [f 3 v5,w 8 (.ld l0 1 false),w 9 (.ln l0),x 10 (.i 0)] [] (.blk 1 K.Kg)) (q [h 9 v5,u (.st v3 l0 9 []),x 4 (.i 0)] [] .ret)))))),res:=[(3,some (9,true)),(4,none)]}
end Go.Ev.K
namespace Go.Ev
class VH [Lib]:Prop where
 BI:Lib.fs N.ma=some K.ma
 BJ:Lib.fs N.mh=some K.mh
 DE:Lib.fs N.nY=some K.nY
namespace K
variable [Lib] [VH]
theorem BI:Lib.fs N.ma=some K.ma:=VH.BI
theorem BJ:Lib.fs N.mh=some K.mh:=VH.BJ
theorem DE:Lib.fs N.nY=some K.nY:=VH.DE
end K
end Go.Ev
namespace Go.Ev.K
open Go.Ev
def fe:Fn:= { av:=2,vars:=[0,1,2,4,5],body:=(q [w 2 (.bx v0 2),x 3 (.b false)] [] (q [u (.mf N.eD [.v 2]),x 4 l0] [] (q [h 2 v2,u (.ca N.cM 0 [] [.l 0]),m l0,e 0 true v1,y 1 true (.ln l0),y 2 true (.bin .leq l0 (.i 32)),u (.pk l3 l0 (.b false)),m l0,e 0 true v1,e 1 true v4,y 2 true (.ca N.aG 0 [] [.l 1,.l 0]),y 3 true (.un .not l0),u (.pk l4 l0 (.b false)),x 3 l0] [] .ret))),res:=[(3,none)]}
def iT:Fn:= { av:=2,vars:=[0,1,3],body:=(q [x 2 (.b false)] [] (q [m v0,f 0 v1,g l0,u (.ln l0),u (.bin .sub l0 (.i 1)),u (.ca N.aU 0 [] [.l 4,.i 0,.l 0]),u (.un .not l0),x 2 l0] [] .ret)),res:=[(2,none)]}
def iU:Fn:= { av:=1,vars:=[0,2],body:=(q [x 1 (.b false)] [] (q [m v0,u (.ca N.bD 0 [] [.l 0]),u (.ca N.cr 0 [] [.l 0]),u (.ca N.bZ 0 [] [.l 0,.i 1,.i 65535]),x 1 l0] [] .ret)),res:=[(1,none)]}
def DY:C:= (.its [u (.bin .lss v8 v7)] [] 0 .skip (.exit 0) (.seq (.blk 1 (q [a 4 v6 v8,h 4 l0,w 4 (.al [.nil,z0,z0,z0] []),u (.st l0 l1 4 [])] [] (q [f 0 v4,g l0,u (.ca N.ah 0 [] [.l 0]),f 0 v4,u (.st l0 l1 1 [])] [] (.reg [f 5 v3,g l0,h 4 v4,u (.bs [.l 0] 4),u (.app l2 l0 true 4),f 5 v3,u (.st l0 l1 1 [])] [])))) (.reg [u (.bin .add v8 (.i 1)),x 8 l0] [])))
def Gv:C:= .loop true [0,4,5,9,10,11] K.DY
def DZ:C:= (.its [u (.bin .lss v11 v10)] [] 0 .skip (.exit 2) (.seq (.blk 3 (q [a 1 v9 v11,g l0,x 5 l0] [] (.reg [f 8 v3,g l0,m v5,u (.ca N.ah 0 [] [.l 0]),u (.bs [.l 0] 1),u (.app l3 l0 true 1),f 8 v3,u (.st l0 l1 1 [])] [(1,4),(1,5)]))) (.reg [u (.bin .add v11 (.i 1)),x 11 l0] [])))
def Gw:C:= .loop true [0,1,4,5,6,7,8] K.DZ
def j9:Fn:= { av:=1,vars:=[0,1,2,3,5,7,29,30,31,56,57,58],body:=(q [w 1 (.bx v0 9),w 2 (.al [.nil,.nil,z0,.nil,.nil,.nil,.nil,.nil,.nil] [])] [] (q [h 9 v1,w 3 (.al [.nil,.nil,z0,.nil,.nil,.nil,.nil,.nil,.nil] [(5,4),(8,1)]),u (.st l0 l1 9 [])] [] (q [f 0 v1,f 0 l0,g l0,u (.ca N.aP 0 [] [.l 0]),f 0 v1,f 1 l0,g l0,u (.ca N.aS 0 [] [.l 0]),u (.bd [.nil,.nil] [(0,1,.l 4),(1,1,.l 0)]),f 0 v3,u (.st l0 l1 2 [])] [(6,0)] (q [f 3 v1,g l0,u (.ca N.aX 0 [] [.l 0]),f 4 v1,g l0,u (.ca N.ah 0 [] [.l 0]),f 3 v3,u (.st l0 l4 1 []),f 4 v3,u (.st l0 l3 1 [])] [(4,0)] (q [f 5 v3,u (.st l0 (.c (.nil)) 1 [(5,4)])] [] (.seq (q [f 5 v1,w 6 (.ld l0 1 false),w 7 (.ln l0),x 8 (.i 0)] [] (.blk 0 K.Gv)) (q [f 6 v1,g l0,u (.ca N.ah 0 [] [.l 0]),f 7 v1,g l0,u (.ca N.ah 0 [] [.l 0]),f 6 v3,u (.st l0 l4 1 []),f 7 v3,u (.st l0 l3 1 [])] [(4,0)] (q [f 8 v3,u (.st l0 (.c (.nil)) 1 [(8,1)])] [] (.seq (q [f 8 v1,w 9 (.ld l0 1 false),w 10 (.ln l0),x 11 (.i 0)] [] (.blk 2 K.Gw)) (q [h 9 v3,u (.st v2 l0 9 [])] [] .ret)))))))))),res:=[(2,some (9,true))]}
def ka:Fn:= { av:=3,vars:=[0,1,2,3,6,14],body:= .fail,res:=[(4,none)]}
def Gx:C:= (.its [u (.bin .lss v7 v6)] [] 0 .skip (.exit 0) (.seq (.blk 1 (q [m v7,w 5 (.al [z0] []),u (.st l0 l1 1 [])] [] (.seq (.ite [f 6 v1,g l0,g v5,a 1 l1 l0,g l0,u (.ca N.aU 0 [] [.l 0,.i (-1),.i 65535]),u (.un .not l0),m l0,y 0 false (.fa v1 7),i 1 false l0,i 2 false v5,y 3 false (.ia l1 l0 1),i 4 false l0,y 5 false (.fa v1 2),i 6 false l0,y 7 false (.ca N.aU 0 [] [.l 2,.i (-1),.l 0]),y 8 false (.un .not l0),u (.pk l9 (.b true) l0),m l0,y 0 false (.fa v1 6),i 1 false l0,i 2 false v5,y 3 false (.ia l1 l0 1),i 4 false l0,y 5 false (.bin .eql l0 (.i (-1))),y 6 false (.fa v1 7),i 7 false l0,i 8 false v5,y 9 false (.ia l1 l0 1),i 10 false l0,y 11 false (.bin .eql l0 (.i (-1))),y 12 false (.eqk (.bool) true l6 l0),u (.pk (.l 13) (.b true) l0),m l0,y 0 false (.fa v1 8),i 1 false l0,i 2 false v5,y 3 false (.ia l1 l0 1),i 4 false l0,y 5 false (.ln l0),e 6 false v3,y 7 false (.bin .neq l1 l0),u (.pk l8 (.b true) l0)] [] 0 (q [x 2 (.b false)] [] .ret) .skip) (.ite [f 8 v1,g l0,g v5,a 1 l1 l0,g l0,u (.mf N.iV [.v 1,.v 5]),u (.ca N.aq 0 [] [.l 1,.l 0])] [] 0 (q [x 2 (.b false)] [] .ret) .skip)))) (.reg [u (.bin .add v7 (.i 1)),x 7 l0] [])))
def Hz:C:= .loop true [0,2,4,5] K.Gx
def ko:Fn:= { av:=1,vars:=[0,1,2,3,4,5,65,66],body:=(q [w 1 (.bx v0 9),x 2 (.b false)] [] (q [f 3 v1,g l0,u (.ln l0),f 5 v1,g l0,u (.ln l0),x 3 l3,x 4 l1] [] (.seq (.ite [f 0 v1,h 2 l0,f 5 v1,g l0,u (.ca N.fe 0 [] [.l 2,.l 0]),u (.un .not l0),m l0,e 0 false v3,y 1 false (.ca N.aU 0 [] [.l 0,.i 1,.i 12]),y 2 false (.un .not l0),u (.pk l3 (.b true) l0),m l0,y 0 false (.fa v1 4),i 1 false l0,y 2 false (.ln l0),e 3 false v3,y 4 false (.bin .neq l1 l0),u (.pk l5 (.b true) l0),m l0,y 0 false (.fa v1 4),i 1 false l0,y 2 false (.ca N.iU 0 [] [.l 0]),y 3 false (.un .not l0),u (.pk l4 (.b true) l0),m l0,y 0 false (.fa v1 2),i 1 false l0,y 2 false (.ca N.aU 0 [] [.l 0,.i 0,.i 2147483648]),y 3 false (.un .not l0),u (.pk l4 (.b true) l0),m l0,y 0 false (.fa v1 6),i 1 false l0,y 2 false (.ln l0),e 3 false v4,y 4 false (.bin .neq l1 l0),u (.pk l5 (.b true) l0),m l0,y 0 false (.fa v1 7),i 1 false l0,y 2 false (.ln l0),e 3 false v4,y 4 false (.bin .neq l1 l0),u (.pk l5 (.b true) l0),m l0,y 0 false (.fa v1 8),i 1 false l0,y 2 false (.ln l0),e 3 false v4,y 4 false (.bin .neq l1 l0),u (.pk l5 (.b true) l0)] [] 0 (q [x 2 (.b false)] [] .ret) .skip) (.seq (q [f 5 v1,g l0,w 6 (.ln l0),x 7 (.i 0)] [] (.blk 0 K.Hz)) (q [f 3 v1,g l0,u (.mf N.iW [.v 1]),u (.ca N.aE 0 [] [.l 1,.l 0]),u (.un .not l0),x 2 l0] [] .ret))))),res:=[(2,none)]}
def nZ:Fn:= { av:=3,vars:=[0,1,2,3,6,7,22],body:= .fail,res:=[(4,none)]}
end Go.Ev.K
namespace Go.Ev
class Kh [Lib]:Prop where
 uq:Lib.fs N.fe=some K.fe
 xQ:Lib.fs N.iT=some K.iT
 zp:Lib.fs N.iU=some K.iU
 zq:Lib.fs N.j9=some K.j9
 zr:Lib.fs N.ka=some K.ka
 BK:Lib.fs N.ko=some K.ko
 DF:Lib.fs N.nZ=some K.nZ
namespace K
variable [Lib] [Kh]
theorem uq:Lib.fs N.fe=some K.fe:=Kh.uq
theorem xQ:Lib.fs N.iT=some K.iT:=Kh.xQ
theorem zp:Lib.fs N.iU=some K.iU:=Kh.zp
theorem zq:Lib.fs N.j9=some K.j9:=Kh.zq
theorem zr:Lib.fs N.ka=some K.ka:=Kh.zr
theorem BK:Lib.fs N.ko=some K.ko:=Kh.BK
theorem DF:Lib.fs N.nZ=some K.nZ:=Kh.DF
end K
end Go.Ev
namespace Go.Ev.K
open Go.Ev
def eD:Fn:= { av:=2,vars:=[0,1,2,3],body:=(q [w 2 (.bx v0 4),x 3 (.b false)] [] (q [f 0 v2,g l0,u (.ln l0),u (.bin .eql l0 (.i 0)),m l0,y 0 false (.fa v2 0),i 1 false l0,y 2 false (.fa v1 0),i 3 false l0,y 4 false (.ln l0),y 5 false (.bin .sub l0 (.i 1)),y 6 false (.ca N.bZ 0 [] [.l 4,.i 0,.l 0]),y 7 false (.un .not l0),u (.pk l8 (.b true) l0),m l0,y 0 false (.fa v2 1),i 1 false l0,y 2 false (.ca N.aU 0 [] [.l 0,.i 1,.i 600]),y 3 false (.un .not l0),u (.pk l4 (.b true) l0),m l0,y 0 false (.fa v2 2),i 1 false l0,y 2 false (.ca N.aU 0 [] [.l 0,.i 0,.i 10]),y 3 false (.un .not l0),u (.pk l4 (.b true) l0),m l0,y 0 false (.fa v2 3),i 1 false l0,y 2 false (.ca N.aU 0 [] [.l 0,.i 0,.i 60]),y 3 false (.un .not l0),u (.pk l4 (.b true) l0),x 3 l0] [] .ret)),res:=[(3,none)]}
def aG:Fn:= { av:=2,vars:=[0,1,4],body:=(q [x 2 (.b false)] [] (q [m v0,m v1,u (.ca N.aL 0 [] [.l 1,.l 0]),u (.bin .geq l0 (.i 0)),x 2 l0] [] .ret)),res:=[(2,none)]}
def aX:Fn:= { av:=1,vars:=[0,2],body:=(q [w 1 (.mv (.c (.nil)))] [] (.itk [m v0,u (.eqk (.sl) false l0 (.c (.nil)))] [] 0 (q [w 1 (.nw 3)] [] .ret) .skip (q [u (.bsr [] 3),m v0,u (.app l1 l0 false 3),x 1 l0] [] .ret))),res:=[(1,none)]}
def iV:Fn:= { av:=3,vars:=[0,1,2,4],body:=(q [x 3 (.b false)] [] (q [m v0,f 5 v1,g l0,g v2,a 4 l1 l0,f 2 l0,g l0,u (.ca N.aU 0 [] [.l 6,.i 0,.l 0]),u (.un .not l0),x 3 l0] [] .ret)),res:=[(3,none)]}
def aE:Fn:= { av:=2,vars:=[0,1,4],body:=(q [x 2 (.b false)] [] (q [m v0,m v1,u (.ca N.aV 0 [] [.l 1,.l 0]),u (.bin .geq l0 (.i 0)),x 2 l0] [] .ret)),res:=[(2,none)]}
def iW:Fn:= { av:=2,vars:=[0,1,2,3],body:=(q [w 2 (.bx v0 3),x 3 (.b false)] [] (q [f 0 v1,h 2 l0,h 3 v2,u (.ca N.iX 0 [] [.l 1,.l 0]),u (.un .not l0),x 3 l0] [] .ret)),res:=[(3,none)]}
def iX:Fn:= { av:=2,vars:=[0,1,2,3,4],body:=(q [w 2 (.bx v0 2),w 3 (.bx v1 3),x 4 (.b false)] [] (.seq (.blk 0 (.ite [f 0 v3,g l0,f 0 v2,g l0,u (.ln l0),u (.bin .sub l0 (.i 1)),u (.ca N.aU 0 [] [.l 4,.i 0,.l 0]),u (.un .not l0),m l0] [] 0 (q [x 4 (.b false)] [] .ret) (.ite [f 1 v3,g l0,u (.bin .eql l0 (.i (-1))),m l0] [] 0 (q [f 2 v3,g l0,u (.bin .eql l0 (.i 0)),x 4 l0] [] .ret) .skip))) (q [h 2 v2,f 1 v3,g l0,f 0 v3,g l0,u (.ca N.ka 0 [] [.l 4,.l 2,.l 0]),u (.bin .geq l0 (.i 0)),m l0,y 0 true (.fa v3 2),i 1 true l0,y 2 true (.ca N.aU 0 [] [.l 0,.i 1,.i 2147483648]),u (.pk l3 l0 (.b false)),x 4 l0] [] .ret))),res:=[(4,none)]}
def jd:C:= (.its [u (.bin .lss v5 v4)] [] 0 .skip (.exit 0) (.seq (.blk 1 (q [m v5,x 3 l0] [] (.ite [m v1,m v0,m v3,a 4 l1 l0,h 4 l0,u (.cw l4 0 [] [.l 0])] [] 0 (q [m v3,x 2 l0] [] .ret) .skip))) (.reg [u (.bin .add v5 (.i 1)),x 5 l0] [])))
def jm:C:= .loop true [2,3] K.jd
def aL:Fn:= { av:=2,vars:=[0,1,4,5,7,8],body:=(q [x 2 (.i 0)] [] (.seq (q [m v0,w 4 (.ln l0),x 5 (.i 0)] [] (.blk 0 K.jm)) (q [w 2 (.mv (.i (-1)))] [] .ret))),res:=[(2,none)]}
def kD:C:= (.its [u (.bin .lss v5 v4)] [] 0 .skip (.exit 0) (.seq (.blk 1 (q [m v5,x 3 l0] [] (.ite [m v1,m v0,m v3,a 3 l1 l0,h 3 l0,u (.cw l4 0 [] [.l 0])] [] 0 (q [m v3,x 2 l0] [] .ret) .skip))) (.reg [u (.bin .add v5 (.i 1)),x 5 l0] [])))
def lf:C:= .loop true [2,3] K.kD
def aV:Fn:= { av:=2,vars:=[0,1,4,5,7,8],body:=(q [x 2 (.i 0)] [] (.seq (q [m v0,w 4 (.ln l0),x 5 (.i 0)] [] (.blk 0 K.lf)) (q [w 2 (.mv (.i (-1)))] [] .ret))),res:=[(2,none)]}
def Aa:C:= (.its [u (.bin .lss v8 v7)] [] 0 .skip (.exit 0) (.seq (.blk 1 (q [a 4 v6 v8,h 4 l0,w 4 (.al [.nil,z0,z0,z0] []),u (.st l0 l1 4 [])] [] (q [f 0 v4,g l0,u (.ca N.ah 0 [] [.l 0]),f 0 v4,u (.st l0 l1 1 [])] [] (.reg [f 5 v3,g l0,h 4 v4,u (.bs [.l 0] 4),u (.app l2 l0 true 4),f 5 v3,u (.st l0 l1 1 [])] [])))) (.reg [u (.bin .add v8 (.i 1)),x 8 l0] [])))
def BL:C:= .loop true [0,4,5,9,10,11] K.Aa
def Ab:C:= (.its [u (.bin .lss v11 v10)] [] 0 .skip (.exit 2) (.seq (.blk 3 (q [a 1 v9 v11,g l0,x 5 l0] [] (.reg [f 8 v3,g l0,m v5,u (.ca N.ah 0 [] [.l 0]),u (.bs [.l 0] 1),u (.app l3 l0 true 1),f 8 v3,u (.st l0 l1 1 [])] [(1,4),(1,5)]))) (.reg [u (.bin .add v11 (.i 1)),x 11 l0] [])))
def BM:C:= .loop true [0,1,4,5,6,7,8] K.Ab
def gk:Fn:= { av:=1,vars:=[0,1,2,3,5,7,29,30,31,56,57,58],body:=(q [w 1 (.bx v0 9),w 2 (.al [.nil,.nil,z0,.nil,.nil,.nil,.nil,.nil,.nil] [])] [] (q [h 9 v1,w 3 (.al [.nil,.nil,z0,.nil,.nil,.nil,.nil,.nil,.nil] [(5,4),(8,1)]),u (.st l0 l1 9 [])] [] (q [f 0 v1,f 0 l0,g l0,u (.ca N.aP 0 [] [.l 0]),f 0 v1,f 1 l0,g l0,u (.ca N.aS 0 [] [.l 0]),u (.bd [.nil,.nil] [(0,1,.l 4),(1,1,.l 0)]),f 0 v3,u (.st l0 l1 2 [])] [(6,0)] (q [f 3 v1,g l0,u (.ca N.aX 1 [] [.l 0]),f 4 v1,g l0,u (.ca N.ah 0 [] [.l 0]),f 3 v3,u (.st l0 l4 1 []),f 4 v3,u (.st l0 l3 1 [])] [(4,0)] (q [f 5 v3,u (.st l0 (.c (.nil)) 1 [(5,4)])] [] (.seq (q [f 5 v1,w 6 (.ld l0 1 false),w 7 (.ln l0),x 8 (.i 0)] [] (.blk 0 K.BL)) (q [f 6 v1,g l0,u (.ca N.ah 0 [] [.l 0]),f 7 v1,g l0,u (.ca N.ah 0 [] [.l 0]),f 6 v3,u (.st l0 l4 1 []),f 7 v3,u (.st l0 l3 1 [])] [(4,0)] (q [f 8 v3,u (.st l0 (.c (.nil)) 1 [(8,1)])] [] (.seq (q [f 8 v1,w 9 (.ld l0 1 false),w 10 (.ln l0),x 11 (.i 0)] [] (.blk 2 K.BM)) (q [h 9 v3,u (.st v2 l0 9 [])] [] .ret)))))))))),res:=[(2,some (9,true))]}
end Go.Ev.K
namespace Go.Ev
class D0 [Lib]:Prop where
 rJ:Lib.fs N.eD=some K.eD
 dK:Lib.fs N.aG=some K.aG
 gU:Lib.fs N.aX=some K.aX
 xR:Lib.fs N.iV=some K.iV
 fm:Lib.fs N.aE=some K.aE
 xS:Lib.fs N.iW=some K.iW
 xT:Lib.fs N.iX=some K.iX
 eo:Lib.fs N.aL=some K.aL
 fM:Lib.fs N.aV=some K.aV
 ur:Lib.fs N.gk=some K.gk
namespace K
variable [Lib] [D0]
theorem rJ:Lib.fs N.eD=some K.eD:=D0.rJ
theorem dK:Lib.fs N.aG=some K.aG:=D0.dK
theorem gU:Lib.fs N.aX=some K.aX:=D0.gU
theorem xR:Lib.fs N.iV=some K.iV:=D0.xR
theorem fm:Lib.fs N.aE=some K.aE:=D0.fm
theorem xS:Lib.fs N.iW=some K.iW:=D0.xS
theorem xT:Lib.fs N.iX=some K.iX:=D0.xT
theorem eo:Lib.fs N.aL=some K.aL:=D0.eo
theorem fM:Lib.fs N.aV=some K.aV:=D0.fM
theorem ur:Lib.fs N.gk=some K.gk:=D0.ur
end K
end Go.Ev
namespace Go.Ev.K
open Go.Ev
def n5:Fn:= { av:=0,vars:=[0],body:=(q [w 0 (.al [.nil,.nil] [])] [] (q [u (.bs [.i (-1)] 1),u (.ca N.bQ 1 [] [.l 0,.i 32]),u (.mkt (.i 32) (.int .i64 (0)) 1),u (.bd [.nil,.nil] [(0,1,.l 1),(1,1,.l 0)]),u (.st v0 l0 2 [])] [(0,0),(2,0)] .ret)),res:=[(0,some (2,true))]}
end Go.Ev.K
namespace Go.Ev
class ad2 [Lib]:Prop where
 DG:Lib.fs N.n5=some K.n5
namespace K
variable [Lib] [ad2]
theorem DG:Lib.fs N.n5=some K.n5:=ad2.DG
end K
end Go.Ev
namespace Go.Ev.K
open Go.Ev
def n9:Fn:= { av:=2,vars:=[0,1,2,3,4,5],body:=(q [w 2 (.bx v0 2),w 3 (.bx v1 4),x 4 (.b false)] [] (q [f 0 v2,g l0,u (.ln l0),u (.bin .sub l0 (.i 1)),x 5 l0] [] (q [h 2 v2,u (.ca N.cM 0 [] [.l 0]),m l0,y 0 true (.fa v3 0),i 1 true l0,e 2 true v5,y 3 true (.ca N.bZ 0 [] [.l 1,.i 0,.l 0]),u (.pk l4 l0 (.b false)),m l0,y 0 true (.fa v3 1),i 1 true l0,e 2 true v5,y 3 true (.ca N.bZ 0 [] [.l 1,.i 0,.l 0]),u (.pk l4 l0 (.b false)),m l0,y 0 true (.fa v3 2),i 1 true l0,y 2 true (.fa v2 1),i 3 true l0,y 4 true (.ln l0),y 5 true (.bin .sub l0 (.i 1)),y 6 true (.ca N.bZ 0 [] [.l 4,.i 0,.l 0]),u (.pk l7 l0 (.b false)),m l0,y 0 true (.fa v3 3),i 1 true l0,y 2 true (.ca N.aU 0 [] [.l 0,.i 0,.i 2147483648]),u (.pk l3 l0 (.b false)),x 4 l0] [] .ret))),res:=[(4,none)]}
end Go.Ev.K
namespace Go.Ev
class ad3 [Lib]:Prop where
 DH:Lib.fs N.n9=some K.n9
namespace K
variable [Lib] [ad3]
theorem DH:Lib.fs N.n9=some K.n9:=ad3.DH
end K
end Go.Ev
namespace Go.Ev.K
open Go.Ev
def mi:Fn:= { av:=3,vars:=[0,1,2,3,4,6,9,10],body:= .fail,res:=[(5,none)]}
end Go.Ev.K
namespace Go.Ev
class ad4 [Lib]:Prop where
 BN:Lib.fs N.mi=some K.mi
namespace K
variable [Lib] [ad4]
theorem BN:Lib.fs N.mi=some K.mi:=ad4.BN
end K
end Go.Ev
