/- Parts of the proof: see the text that holds the theorem. -/
import Derived.Test.YtjjghpgeifjojaaGreatZ3
set_option linter.all false
open Nat (reduceAdd reduceSub)
set_option maxRecDepth 100000
namespace Go.Ev.K
open Go.Ev
def zt:C:= (.its [u (.bin .lss v16 v15)] [] 0 .skip (.exit 1) (.seq (.blk 2 (q [a 1 v14 v16,g l0,x 13 l0] [] (.reg [m v12,m v13,a 1 l1 l0,u (.st l0 (.i 1099511627776) 1 [])] []))) (.reg [u (.bin .add v16 (.i 1)),x 16 l0] [])))
def AT:C:= .loop true [0,1,2,3,7,10,11,13] K.zt
def iP:Fn:= { aD:=6,vars:=[0,1,2,3,4,5,6,7,8,12,13,14,15,17,53,54,55],body:=(q [w 6 (.bx v0 2),w 7 (.bx v1 2),w 8 (.bx v2 1),w 9 (.al [z0,.nil] []),x 10 (.i 0)] [] (.seq (q [h 2 v6,h 2 v7,g v8,m v3,m v4,u (.ca N.iR 0 [] [.l 4,.l 3,.l 2,.l 1,.l 0]),x 11 l0] [] (.blk 0 (.ite [m v11,u (.bin .neq l0 (.i 0)),m l0] [] 0 (q [h 2 v7,m v11,u (.st v9 l1 2 []),x 10 l1] [] .ret) (.ite [m v5,u (.ca N.bc 0 [] [.l 0,.i 0,.i 2147483648]),u (.un .not l0),m l0] [] 0 (q [h 2 v7,u (.st v9 l0 2 []),x 10 (.i 8)] [] .ret) (.ite [m v4,f 0 v7,g l0,u (.bin .lss l2 l0),m l0] [] 0 (q [h 2 v7,u (.st v9 l0 2 []),x 10 (.i 42)] [] .ret) (.ite [m v4,m v3,f 0 v7,g l0,u (.mx [.l 2,.l 0]),u (.bin .sub l4 l0),m v5,u (.bin .leq l1 l0),m l0] [] 0 (q [h 2 v7,u (.st v9 l0 2 []),x 10 (.i 0)] [] .ret) .skip)))))) (q [f 1 v7,g l0,u (.ca N.ai 1 [] [.l 0]),x 12 l0] [] (.seq (q [w 14 (.ld v8 1 false),w 15 (.ln l0),x 16 (.i 0)] [] (.blk 1 K.AT)) (q [h 2 v6,m v12,m v4,m v5,u (.bin .sub l1 l0),u (.mf N.b5 [.v 8]),u (.ca N.bU 1 [] [.l 5,.l 4,.l 1,.l 0]),x 12 l0] [] (q [m v4,h 2 v6,m v12,m v4,u (.ca N.bU 0 [] [.l 2,.l 1,.l 0,.c (.fn N.dZ [])]),u (.bd [z0,.nil] [(0,1,.l 4),(1,1,.l 0)]),u (.st v9 l0 2 []),x 10 (.i 0)] [] .ret)))))),res:=[(9,some (2,true)),(10,none)]}
def jn:Fn:= { aD:=2,vars:=[0,1,2,3,4],body:=(q [w 2 (.bx v0 2),w 3 (.bx v1 2),x 4 (.b false)] [] (q [f 0 v2,g l0,f 0 v3,g l0,u (.bin .eql l2 l0),m l0,y 0 true (.fa v2 1),i 1 true l0,y 2 true (.fa v3 1),i 3 true l0,y 4 true (.ca N.aS 0 [] [.l 2,.l 0]),u (.pk l5 l0 (.b false)),x 4 l0] [] .ret)),res:=[(4,none)]}
def dD:Fn:= { aD:=1,vars:=[0,1,2],body:=(q [w 1 (.bx v0 2),w 2 (.mv (.c (.nil)))] [] (q [u (.bs [.i 1099511627776] 1),f 0 v1,g l0,u (.ln l0),u (.ca N.bj 1 [] [.l 3,.l 0]),x 2 l0] [] .ret)),res:=[(2,none)]}
def dq:C:= (.seq (.ite [g v9] [] 0 .skip (.exit 0)) (.seq (.blk 1 (q [u (.st v9 (.b false) 1 [])] [] (.reg [h 2 v4,g v8,u (.mf N.bu [.v 5,.v 8,.v 6,.v 9]),u (.ca N.dE 0 [1] [.l 2,.l 1,.l 0])] []))) (q [w 10 (.ld v9 1 false)] [] (.reg [w 9 (.al [z1] []),u (.st l0 v10 1 [])] []))))
def nh:C:= .loop false [0,1,2,3,7,10] K.dq
def bU:Fn:= { aD:=4,vars:=[0,1,2,3,4,6,7,8,9,10,18],body:=(q [w 4 (.bx v0 2),w 5 (.bx v2 1),w 6 (.bx v3 1),w 7 (.mv (.c (.nil)))] [] (q [m v1,u (.ca N.ai 1 [] [.l 0]),w 8 (.al [.nil] []),u (.st l0 l1 1 [])] [] (.seq (q [w 9 (.al [z1] []),u (.st l0 (.b true) 1 [])] [] (.blk 0 K.nh)) (q [g v8,x 7 l0] [] .ret)))),res:=[(7,none)]}
def dZ:Fn:= { aD:=1,vars:=[2],body:=(q [x 0 (.b false)] [] (q [x 0 (.b true)] [] .ret)),res:=[(0,none)]}
def iQ:Fn:= { aD:=2,vars:=[0,1,2,3,4],body:=(q [w 2 (.bx v0 2),w 3 (.bx v1 2),x 4 (.b false)] [] (q [f 1 v3,g l0,u (.ln l0),f 0 v2,g l0,u (.ln l0),u (.bin .eql l3 l0),m l0,y 0 true (.fa v3 0),i 1 true l0,y 2 true (.ca N.bc 0 [] [.l 0,.i 0,.i 2147483648]),u (.pk l3 l0 (.b false)),m l0,y 0 true (.fa v3 1),i 1 true l0,y 2 true (.ca N.ax 0 [] [.l 0,.c (.fn N.fH [])]),y 3 true (.un .not l0),u (.pk l4 l0 (.b false)),x 4 l0] [] .ret)),res:=[(4,none)]}
def rD:C:= (.its [u (.bin .lss v5 v4)] [] 0 .skip (.exit 0) (.seq (.blk 1 (q [m v5,x 3 l0] [] (.ite [m v0,m v3,a 1 l1 l0,g l0,m v1,m v3,a 1 l1 l0,g l0,u (.bin .neq l4 l0)] [] 0 (q [x 2 (.b false)] [] .ret) .skip))) (.reg [u (.bin .add v5 (.i 1)),x 5 l0] [])))
def sI:C:= .loop true [2,3] K.rD
def cq:Fn:= { aD:=2,vars:=[0,1,4,5,12,13],body:=(q [x 2 (.b false)] [] (.seq (.ite [m v0,u (.ln l0),m v1,u (.ln l0),u (.bin .neq l2 l0)] [] 0 (q [x 2 (.b false)] [] .ret) .skip) (.seq (q [m v0,w 4 (.ln l0),x 5 (.i 0)] [] (.blk 0 K.sI)) (q [x 2 (.b true)] [] .ret)))),res:=[(2,none)]}
def iR:Fn:= { aD:=5,vars:=[0,1,2,3,4,5,6,10],body:=(q [w 5 (.bx v0 2),w 6 (.bx v1 2),x 7 (.i 0)] [] (.seq (.blk 0 (.ite [h 2 v5,h 2 v6,u (.ca N.iN 0 [] [.l 1,.l 0]),u (.un .not l0),m l0,e 0 false v2,y 1 false (.ln l0),y 2 false (.bin .eql l0 (.i 0)),u (.pk l3 (.b true) l0),m l0,e 0 false v2,y 1 false (.fa v5 0),i 2 false l0,y 3 false (.ln l0),y 4 false (.bin .sub l0 (.i 1)),y 5 false (.ca N.bM 0 [] [.l 4,.i 0,.l 0]),y 6 false (.un .not l0),u (.pk l7 (.b true) l0),m l0] [] 0 (q [x 7 (.i 6)] [] .ret) (.ite [m v3,u (.ca N.bc 0 [] [.l 0,.i 0,.i 2147483648]),u (.un .not l0),m l0,e 0 false v4,y 1 false (.ca N.bc 0 [] [.l 0,.i 0,.i 2147483648]),y 2 false (.un .not l0),u (.pk l3 (.b true) l0),m l0,e 0 false v3,e 1 false v4,y 2 false (.bin .gtr l1 l0),u (.pk l3 (.b true) l0),m l0] [] 0 (q [x 7 (.i 8)] [] .ret) .skip))) (q [x 7 (.i 0)] [] .ret))),res:=[(7,none)]}
def ai:Fn:= { aD:=1,vars:=[0,2],body:=(q [w 1 (.mv (.c (.nil)))] [] (.itk [m v0,u (.eqk (.sl) false l0 (.c (.nil)))] [] 0 (q [w 1 (.nw 1)] [] .ret) .skip (q [u (.bsr [] 1),m v0,u (.app l1 l0 false 1),x 1 l0] [] .ret))),res:=[(1,none)]}
def b5:Fn:= { aD:=2,vars:=[0,1,3],body:=(q [x 2 (.b false)] [] (q [g v1,m v0,u (.ca N.aP 0 [] [.l 1,.l 0]),x 2 l0] [] .ret)),res:=[(2,none)]}
def fm:C:= (.its [u (.bin .lss v14 (.i 2))] [] 0 .skip (.exit 2) (.seq (.blk 3 (q [u (.ix v13 v14 2 1 false),x 6 l0] [] (q [f 0 v5,g l0,f 1 v5,g l0,x 7 l2,x 8 l1] [] (.seq (.ite [m v6] [] 0 (.reg [m v8,m v7,x 7 l1,x 8 l1] []) .skip) (q [h 2 v3,m v4,m v6,u (.ca N.jR 0 [] [.l 2,.l 1,.l 0]),x 9 l0] [] (.ite [m v9,u (.bin .geq l0 (.i 0)),m l0,e 0 true v1,e 1 true v7,y 2 true (.ia l1 l0 1),i 3 true l0,y 4 true (.bin .lss l0 (.i 1099511627776)),u (.pk l5 l0 (.b false))] [] 0 (.reg [m v2,m v7,m v8,m v1,m v7,a 1 l1 l0,g l0,m v9,u (.bin .add l1 l0),u (.cw l8 0 [] [.l 7,.l 6,.l 0])] []) .skip)))))) (.reg [u (.bin .add v14 (.i 1)),x 14 l0] [])))
def qc:C:= .loop true [0,6,7,8,9] K.fm
def jI:C:= (.its [u (.bin .lss v12 v11)] [] 0 .skip (.exit 0) (.seq (.blk 1 (q [m v12,a 10 v10 v12,h 10 l0,w 5 (.al [z0,z0,z0,z0,z1,z1,z0,z0,z0,z0] []),x 4 l3,u (.st l1 l2 10 [])] [] (q [w 13 (.bd [z1,z1] [(0,1,.b false),(1,1,.b true)]),x 14 (.i 0)] [] (.blk 2 K.qc)))) (.reg [u (.bin .add v12 (.i 1)),x 12 l0] [])))
def qd:C:= .loop true [0,4,5,6,7,8,9,13,14] K.jI
def dE:Fn:= { aD:=3,vars:=[0,1,2,3,6,7,9,10,11,12,14,15,16,21,22],body:=(q [w 3 (.bx v0 2)] [] (q [f 1 v3,w 10 (.ld l0 1 false),w 11 (.ln l0),x 12 (.i 0)] [] (.blk 0 K.qd))),res:=[]}
def bu:Fn:= { aD:=7,vars:=[1,2,3,4,5,6],body:=(q [m v1,g v2,u (.mx [.l 1,.l 0]),x 1 l0] [] (.ite [m v1,u (.bin .leq l0 (.i 2147483648)),m l0,e 0 true v1,i 1 true v3,e 2 true v0,y 3 true (.ia l1 l0 1),i 4 true l0,y 5 true (.bin .lss l4 l0),u (.pk l6 l0 (.b false)),m l0,i 0 true v4,e 1 true v0,y 2 true (.cw l1 0 [] [.l 0]),u (.pk l3 l0 (.b false))] [] 0 (.reg [g v3,m v0,m v1,a 1 l2 l1,u (.st l0 l1 1 []),u (.st v5 (.b true) 1 [])] []) .skip)),res:=[]}
def fH:Fn:= { aD:=1,vars:=[0,2],body:=(q [x 1 (.b false)] [] (q [m v0,u (.bin .neq l0 (.i 1099511627776)),m l0,e 0 true v0,y 1 true (.ca N.bc 0 [] [.l 0,.i 0,.i 2147483648]),y 2 true (.un .not l0),u (.pk l3 l0 (.b false)),x 1 l0] [] .ret)),res:=[(1,none)]}
def jR:Fn:= { aD:=3,vars:=[0,1,2,3,6],body:=(q [w 3 (.bx v0 2),x 4 (.i 0)] [] (.seq (.ite [h 2 v3,u (.ca N.cy 0 [] [.l 0]),u (.un .not l0),m l0,e 0 false v1,y 1 false (.bin .lss l0 (.i 0)),u (.pk l2 (.b true) l0),m l0,e 0 false v1,y 1 false (.fa v3 1),i 2 false l0,y 3 false (.ln l0),y 4 false (.bin .geq l3 l0),u (.pk l5 (.b true) l0)] [] 0 (q [w 4 (.mv (.i (-1)))] [] .ret) .skip) (q [h 2 v3,m v1,m v2,u (.ca N.kZ 0 [] [.l 2,.l 1,.l 0]),x 4 l0] [] .ret))),res:=[(4,none)]}
def kZ:Fn:= { aD:=3,vars:=[0,1,2,3,6],body:=(q [w 3 (.bx v0 2),x 4 (.i 0)] [] (q [h 2 v3,m v1,m v2,u (.ca N.jZ 0 [] []),u (.ca N.fI 0 [] [.l 3,.l 2,.l 1,.l 0]),x 4 l0] [(0,4)] .ret)),res:=[(4,none)]}
def fI:Fn:= { aD:=4,vars:=[0,1,2,3,4,7,8,9,10,11],body:=(q [w 4 (.bx v0 2),w 5 (.bx v3 3),x 6 (.i 0)] [] (q [f 1 v4,g l0,m v1,a 10 l1 l0,h 10 l0,w 7 (.al [z0,z0,z0,z0,z1,z1,z0,z0,z0,z0] []),u (.st l0 l1 10 [])] [] (.seq (.ite [f 5 v7,g l0,m l0,y 0 false (.fa v7 4),i 1 false l0,y 2 false (.un .not l0),u (.pk l3 (.b true) l0)] [] 0 (q [w 6 (.mv (.i (-1)))] [] .ret) .skip) (q [f 0 v4,g l0,f 1 v7,g l0,a 2 l2 l0,f 0 l0,g l0,f 0 v4,g l0,f 0 v7,g l0,a 2 l2 l0,f 0 l0,g l0,u (.bin .sub l7 l0),x 8 l0] [] (.seq (.ite [m v2] [] 0 (.reg [m v8,u (.un .neg l0),x 8 l0] []) .skip) (q [f 2 v5,g l0,x 9 l0] [] (.seq (.blk 0 (.ite [m v8,u (.bin .mul (.i 10) l0),f 2 v7,g l0,u (.bin .gtr l2 l0),m l0] [] 0 (.reg [f 0 v5,g l0,x 9 l0] []) (.ite [m v8,u (.bin .mul (.i (-10)) l0),f 2 v7,g l0,u (.bin .gtr l2 l0),m l0] [] 0 (.reg [f 1 v5,g l0,x 9 l0] []) .skip))) (q [f 2 v7,g l0,u (.bin .mul (.i 10) l0),m v9,u (.bin .add l1 l0),u (.bin .sub l0 (.i 1)),m v9,u (.bin .quo l1 l0),x 6 l0] [] .ret)))))))),res:=[(6,none)]}
def jZ:Fn:= { aD:=0,vars:=[0],body:=(q [w 0 (.al [z0,z0,z0] [])] [] (q [u (.bd [z0,z0,z0] [(0,1,.i 6),(1,1,.i 9),(2,1,.i 12)]),u (.st v0 l0 3 [])] [] .ret)),res:=[(0,some (3,true))]}
end Go.Ev.K
namespace Go.Ev
class dF [Lib]:Prop where
 uy:Lib.fs N.iP=some K.iP
 uz:Lib.fs N.jn=some K.jn
 oc:Lib.fs N.dD=some K.dD
 ly:Lib.fs N.bU=some K.bU
 uA:Lib.fs N.dZ=some K.dZ
 uC:Lib.fs N.iQ=some K.iQ
 mU:Lib.fs N.cq=some K.cq
 wy:Lib.fs N.iR=some K.iR
 ie:Lib.fs N.ai=some K.ai
 ni:Lib.fs N.b5=some K.b5
 nj:Lib.fs N.dE=some K.dE
 mE:Lib.fs N.bu=some K.bu
 rE:Lib.fs N.fH=some K.fH
 xi:Lib.fs N.jR=some K.jR
 xj:Lib.fs N.kZ=some K.kZ
 xk:Lib.fs N.fI=some K.fI
 uD:Lib.fs N.jZ=some K.jZ
namespace K
variable [Lib] [dF]
theorem uy:Lib.fs N.iP=some K.iP:=dF.uy
theorem uz:Lib.fs N.jn=some K.jn:=dF.uz
theorem oc:Lib.fs N.dD=some K.dD:=dF.oc
theorem ly:Lib.fs N.bU=some K.bU:=dF.ly
theorem uA:Lib.fs N.dZ=some K.dZ:=dF.uA
theorem uC:Lib.fs N.iQ=some K.iQ:=dF.uC
theorem mU:Lib.fs N.cq=some K.cq:=dF.mU
theorem wy:Lib.fs N.iR=some K.iR:=dF.wy
theorem ie:Lib.fs N.ai=some K.ai:=dF.ie
theorem ni:Lib.fs N.b5=some K.b5:=dF.ni
theorem nj:Lib.fs N.dE=some K.dE:=dF.nj
theorem mE:Lib.fs N.bu=some K.bu:=dF.mE
theorem rE:Lib.fs N.fH=some K.fH:=dF.rE
theorem xi:Lib.fs N.jR=some K.jR:=dF.xi
theorem xj:Lib.fs N.kZ=some K.kZ:=dF.xj
theorem xk:Lib.fs N.fI=some K.fI:=dF.xk
theorem uD:Lib.fs N.jZ=some K.jZ:=dF.uD
end K
end Go.Ev
namespace Go.Ev
open Go
variable [Lib] [bO] [bL] [dg] [dn] [eR] [dF]
abbrev Fb(l:List Int):Obj:= .arr 1 false 0 ((l.map (T.int .i64)).map .t)
theorem cT(l:List Int)(hl:l.length≤1000000):aL 0 N.ai [.t (tL l)] []=some (.t (tL l),[]):=by
 refine aj K.ie rfl ?_
 by_cases h0:l=[]
 · subst h0
   simp only[tL,List.map_nil]
   simp(disch:=omega)only[go_sem,K.ai,↓reduceIte,List.map_nil,reduceAdd,reduceSub]
 · have e:=fun H=>p5 H (l.map (T.int .i64)) (by simpa using h0)
   simp(disch:=omega)only[go_sem,K.ai,↓reduceIte,e,reduceAdd,reduceSub]
theorem O0(l:List Int)(hl:l.length≤1000000):aL 1 N.ai [.t (tL l)] []=some (.ref 0 0 l.length,[Fb l]):=by
 refine aj K.ie rfl ?_
 by_cases h0:l=[]
 · subst h0
   simp only[tL,List.map_nil]
   simp(disch:=omega)only[go_sem,K.ai,↓reduceIte,List.map_nil,List.length_nil,reduceAdd,reduceSub]
   rfl
 · have e:=fun H=>p5 H (l.map (T.int .i64)) (by simpa using h0)
   simp(disch:=omega)only[go_sem,K.ai,↓reduceIte,e,reduceAdd,reduceSub]
theorem RT:aL 0 N.jZ [] []=some (.t (.agg [tI 6,tI 9,tI 12]),[]):=by
 refine aj K.uD rfl ?_
 simp(disch:=omega)only[go_sem,K.jZ,↓reduceIte,reduceAdd,reduceSub]
theorem WZ{m:bq}(h:m.ok)(k:Nat)(hk:k<m.roads.length)(back:Bool)(up down level:Int)(hu:1≤up)(hu2:up≤100)(hd:1≤down)(hd2:down≤100)(hl:1≤level)(hl2:level≤100):
 aL 0 N.fI [.t m.e,I k,B back,.t (.agg [tI up,tI down,tI level])] []=some (I (jk m k back up down level),[]):=by
 refine aj K.xk rfl ?_
 have nr:=h.nr
 have np:=h.np
 obtain⟨f0,f1,t0,t1, -,l0,l1, -, -, -, -, -, -, -, -⟩:=h.rs _ (aE hk)
 have b1:=h.hs _ (aE (l:=m.aa) (j:=(nth m.roads k).frm.toNat) (by omega))
 have b2:=h.hs _ (aE (l:=m.aa) (j:=(nth m.roads k).to.toNat) (by omega))
 have g:(m.roads.map Road.e)[k]?=some (nth m.roads k).e:=bE _ hk
 have p1:(m.aa.map Place.e)[(nth m.roads k).frm.toNat]?=some (nth m.aa (nth m.roads k).frm.toNat).e:=bE _ (by omega)
 have p2:(m.aa.map Place.e)[(nth m.roads k).to.toNat]?=some (nth m.aa (nth m.roads k).to.toNat).e:=bE _ (by omega)
 have key:∀h1 h2:Int, -10000≤h1→h1≤10000→ -10000≤h2→h2≤10000→IntKind.i64.wrap (h1-h2)=h1-h2∧IntKind.i64.wrap (-(h1-h2))=h2-h1:=fun h1 h2 _ _ _ _=>⟨uc (by omega) (by omega),by rw[uc (by omega) (by omega)];omega⟩
 unfold jk
 generalize nth m.roads k=x at*
 obtain⟨frm,to,len,area,walk,closed,rl,rh,ll,lh⟩:=x
 simp only at f0 f1 t0 t1 l0 l1 b1 b2 p1 p2 ⊢
 cases closed with
 | true=>
   obtain⟨aa,roads⟩:=m
   simp(disch:=omega)only[go_sem,K.fI,↓reduceIte,g,reduceAdd,reduceSub]
 | false=>
   cases walk with
   | false=>
     obtain⟨aa,roads⟩:=m
     simp(disch:=omega)only[go_sem,K.fI,↓reduceIte,g,reduceAdd,reduceSub]
   | true=>
     have g1:=qA (a:=10*len+up-1) (b:=up) (by omega) hu
     have g2:=qA (a:=10*len+down-1) (b:=down) (by omega) hd
     have g3:=qA (a:=10*len+level-1) (b:=level) (by omega) hl
     cases back with
     | true=>
       simp only[↓reduceIte]
       generalize nth m.aa frm.toNat=q1 at*
       generalize nth m.aa to.toNat=q2 at*
       obtain⟨h1,s1⟩:=q1
       obtain⟨h2,s2⟩:=q2
       obtain⟨aa,roads⟩:=m
       simp only at*
       obtain⟨w2,w3⟩:=key h2 h1 (by omega) (by omega) (by omega) (by omega)
       by_cases c2:len< -10*(h1-h2)
       · simp(disch:=omega)only[go_sem,K.fI,↓reduceIte,g,p1,p2,w2,w3,gt_iff_lt,Int.zero_sub,reduceAdd,reduceSub]
       · by_cases c1:len<10*(h1-h2)
         · simp(disch:=omega)only[go_sem,K.fI,↓reduceIte,g,p1,p2,w2,w3,gt_iff_lt,Int.zero_sub,reduceAdd,reduceSub]
         · simp(disch:=omega)only[go_sem,K.fI,↓reduceIte,g,p1,p2,w2,w3,gt_iff_lt,Int.zero_sub,reduceAdd,reduceSub]
     | false=>
       simp only[aLt,↓reduceIte]
       generalize nth m.aa frm.toNat=q1 at*
       generalize nth m.aa to.toNat=q2 at*
       obtain⟨h1,s1⟩:=q1
       obtain⟨h2,s2⟩:=q2
       obtain⟨aa,roads⟩:=m
       simp only at*
       obtain⟨w2,w3⟩:=key h2 h1 (by omega) (by omega) (by omega) (by omega)
       by_cases c2:len< -10*(h2-h1)
       · simp(disch:=omega)only[go_sem,K.fI,↓reduceIte,g,p1,p2,w2,gt_iff_lt,reduceAdd,reduceSub]
       · by_cases c1:len<10*(h2-h1)
         · simp(disch:=omega)only[go_sem,K.fI,↓reduceIte,g,p1,p2,w2,gt_iff_lt,reduceAdd,reduceSub]
         · simp(disch:=omega)only[go_sem,K.fI,↓reduceIte,g,p1,p2,w2,gt_iff_lt,reduceAdd,reduceSub]
theorem Fc{m:bq}(h:m.ok)(k:Nat)(hk:k<m.roads.length)(back:Bool):aL 0 N.jR [.t m.e,I k,B back] []=some (I (jk m k back 6 9 12),[]):=by
 have q:=RT
 have w:=WZ h k hk back 6 9 12 (by omega) (by omega) (by omega) (by omega) (by omega) (by omega)
 have v:=lV h
 have nr:=h.nr
 have s:aL 0 N.kZ [.t m.e,I k,B back] []=some (I (jk m k back 6 9 12),[]):=by
  refine aj K.xj rfl ?_
  generalize jk m k back 6 9 12=r at*
  obtain⟨aa,roads⟩:=m
  simp(disch:=omega)only[go_sem,K.kZ,↓reduceIte,q,w,reduceAdd,reduceSub]
 refine aj K.xi rfl ?_
 generalize jk m k back 6 9 12=r at*
 obtain⟨aa,roads⟩:=m
 simp only at*
 simp(disch:=omega)only[go_sem,K.jR,↓reduceIte,v,s,reduceAdd,reduceSub]
theorem W4(q:Int):aL 0 N.dZ [I q] []=some (B true,[]):=by
 refine aj K.uA rfl ?_
 simp(disch:=omega)only[go_sem,K.dZ,↓reduceIte,reduceAdd,reduceSub]
theorem RU(q:Int)(l:List Int)(hl:l.length≤4294967296):aL 0 N.b5 [I q,.bp 0 0] [.box [.t (tL l)]]=some (B (decide (q∈l)),[.box [.t (tL l)]]):=by
 refine aj K.ni rfl ?_
 have c:=Jq l q hl
 simp(disch:=omega)only[go_sem,K.b5,↓reduceIte,c,reduceAdd,reduceSub]
theorem Jy{m:bq}(h:m.ok)(h1:1≤m.aa.length):aL 1 N.dD [.t m.e] []=some (.ref 0 0 m.aa.length,[.arr 1 false 0 (((kK m.aa.length).map (T.int .i64)).map .t)]):=by
 refine aj K.oc rfl ?_
 have np:=h.np
 have r:=Cd 1099511627776 m.aa.length h1 (by omega)
 have e:List.replicate m.aa.length (I 1099511627776)=((kK m.aa.length).map (T.int .i64)).map D.t:=by simp[kK]
 rw[e]at r
 simp only[tL,List.map_cons,List.map_nil]at r
 obtain⟨aa,roads⟩:=m
 simp only at*
 generalize kK aa.length=nl at*
 simp(disch:=omega)only[go_sem,K.dD,↓reduceIte,r,reduceAdd,reduceSub]
def smE(into:Option (List Int)):aq:=match into with
 | none=>[]
 | some s=>[.box [.t (tL s)]]
def smD(into:Option (List Int)):D:=match into with
 | none=> .fn N.dZ []
 | some _=> .fn N.b5 [.bp 5 0]
def smK(into:Option (List Int)):Nat:=match into with
 | none=>5
 | some _=>6
@[go_sem] theorem akR (H : aq) (len j : Nat) (ts : List T) (h : j < len) : abP H len 1 false (.t (.agg ts)) j = (ts[j]?).map fun t => (.t t, H) := by
 have h0:len≠0:=by omega
 unfold abP DN
 rw[if_neg h0,if_pos h]
 unfold xD cut
 simp only[D.isAgg,D.cells,T.cells,if_true,Nat.mul_one,List.length_map]
 by_cases hj:j<ts.length
 · rw[if_pos (by omega),aLc hj]
   have e:((ts.map D.t).drop j).take 1=[D.t ts[j]]:=by
    rw[List.drop_eq_getElem_cons (by simpa using hj)];simp
   rw[e];rfl
 · rw[if_neg (by omega),aLm (by omega)];rfl
def O1(into:Option (List Int))(l:List Int)(q:Nat)(x:Int):Bool:=decide (x≤2147483648∧x<nth l q)&&Tq into q
theorem W5(into:Option (List Int))(hi:∀s,into=some s→s.length≤64)(l:List Int)(hl:l.length≤64)(hb:bnd l)(p:Int)(q:Nat)(hq:q<l.length)(n t:Int)(ch:Bool):
 aL 0 N.bu [I p,I q,I n,.bp 0 0,.bp 1 0,.bp 2 0,.bp 3 0] (.box [I t]:: .box [.ref 4 0 l.length]:: .box [smD into]:: .box [B ch]::Fb l::smE into)=
  some (.tup [],if O1 into l q (max n t)=true then .box [I t]:: .box [.ref 4 0 l.length]:: .box [smD into]:: .box [B true]::Fb (l.set q (max n t))::smE into
   else .box [I t]:: .box [.ref 4 0 l.length]:: .box [smD into]:: .box [B ch]::Fb l::smE into):=by
 refine aj K.mE rfl ?_
 have ln:(l.set q (max n t)).length=l.length:=List.length_set ..
 have a:=W4 q
 have b:=hb _ (aE hq)
 unfold O1
 cases into with
 | none=>
   simp only[smE,smD,Tq,Bool.and_true,decide_eq_true_eq]
   by_cases c1:max n t≤2147483648
   · by_cases c2:max n t<nth l q
     · simp(disch:=omega)only[go_sem,K.bu,↓reduceIte,a,c1,c2,and_self,reduceAdd,reduceSub]
     · simp(disch:=omega)only[go_sem,K.bu,↓reduceIte,c1,c2,and_false,reduceAdd,reduceSub]
   · simp(disch:=omega)only[go_sem,K.bu,↓reduceIte,c1,false_and,reduceAdd,reduceSub]
 | some s=>
   have a2:=RU q s (by have:=hi s rfl;omega)
   simp only[smE,smD,Tq]
   by_cases c1:max n t≤2147483648
   · by_cases c2:max n t<nth l q
     · by_cases c3:(q:Int)∈s
       · simp only[c3,decide_true]at a2
         simp(disch:=omega)only[go_sem,K.bu,↓reduceIte,a2,c1,c2,c3,and_self,decide_true,Bool.and_true,reduceAdd,reduceSub]
       · simp only[c3,decide_false]at a2
         simp(disch:=omega)only[go_sem,K.bu,↓reduceIte,a2,c1,c2,c3,and_self,decide_false,Bool.and_false,reduceAdd,reduceSub]
     · simp(disch:=omega)only[go_sem,K.bu,↓reduceIte,c1,c2,and_false,decide_false,Bool.false_and,reduceAdd,reduceSub]
   · simp(disch:=omega)only[go_sem,K.bu,↓reduceIte,c1,false_and,decide_false,Bool.false_and,reduceAdd,reduceSub]
theorem RV{m:bq}(h:m.ok)(t:Int)(into:Option (List Int)){k:Nat}(hk:k<m.roads.length)(back:Bool)(l:List Int):
 i6 m t into k back l=if 0≤jk m k back 6 9 12∧nth l ((nth m.roads k).src back).toNat<1099511627776∧O1 into l ((nth m.roads k).dst back).toNat (max (nth l ((nth m.roads k).src back).toNat+jk m k back 6 9 12) t)=true
  then(l.set ((nth m.roads k).dst back).toNat (max (nth l ((nth m.roads k).src back).toNat+jk m k back 6 9 12) t),true)else(l,false):=by
 have r2:=Road.rA (h.rs _ (aE hk)) back
 unfold i6 O1 p8 pb
 have e:(((nth m.roads k).dst back).toNat:Int)=(nth m.roads k).dst back:=by omega
 rw[e]
 generalize (nth m.roads k).dst back=d at*
 generalize ((nth m.roads k).src back).toNat=s at*
 generalize jk m k back 6 9 12=v at*
 rw[Int.max_comm t]
 generalize max (nth l s+v) t=x at*
 cases Tq into d with
 | false=>simp
 | true=>
   simp only[↓reduceIte,Bool.and_true,aLr,decide_eq_true_eq]
   by_cases c:((0≤v∧nth l s<1099511627776)∧x≤2147483648)∧x<nth l d.toNat
   · obtain⟨⟨⟨c1,c2⟩,c3⟩,c4⟩:=c
     simp[c1,c2,c3,c4]
   · have c':¬(0≤v∧nth l s<1099511627776∧x≤2147483648∧x<nth l d.toNat):=fun h=>c ⟨⟨⟨h.1,h.2.1⟩,h.2.2.1⟩,h.2.2.2⟩
     rw[if_neg c,if_neg c']
     simp only[Prod.mk.injEq,true_and]
     have:(decide (0≤v)&&decide (nth l s<1099511627776)&&decide (x≤2147483648)&&decide (x<nth l d.toNat))=false:=by
      rw[Bool.eq_false_iff];intro h;simp only[aLr,decide_eq_true_eq]at h;exact c h
     exact this
abbrev O2:D:= .fn N.bu [.bp 1 0,.bp 2 0,.bp 3 0,.bp 4 0]
abbrev Cg(into:Option (List Int))(t:Int)(s:List Int×Bool):aq:=Fb s.1:: .box [I t]:: .box [.ref 0 0 s.1.length]:: .box [smD into]:: .box [B s.2]::smE into
abbrev zu(x:Road):List D:=[I x.frm,I x.to,I x.len,I x.area,B x.walk,B x.closed,I x.restL,I x.restH,I x.liftL,I x.liftH]
theorem Ec{m:bq}(h:m.ok)(t:Int)(ht:0≤t)(ht2:t≤1000000000000)(into:Option (List Int))(hi:∀s,into=some s→s.length≤64)(l:List Int)(hl:l.length=m.aa.length)(hb:bnd l)(ch:Bool){k:Nat}(hk:k<m.roads.length)(back:Bool):
 kV true [0,6,7,8,9] (Cg into t (l,ch)++[Obj.box (ae m),Obj.box (zu (nth m.roads k))]).length (exS aL K.fm ⟨[.und,.ref 0 0 l.length,O2,.bp (smK into) 0,I k,.bp (smK into+1) 0,.und,.und,.und,.und,.t (.sl (m.roads.map Road.e)),I m.roads.length,I k,.t (.agg [.bool false,.bool true]),I (if back then 1 else 0:Nat)],Cg into t (l,ch)++[.box (ae m),.box (zu (nth m.roads k))]⟩)=
  some ⟨[.und,.ref 0 0 l.length,O2,.bp (smK into) 0,I k,.bp (smK into+1) 0,.und,.und,.und,.und,.t (.sl (m.roads.map Road.e)),I m.roads.length,I k,.t (.agg [.bool false,.bool true]),I ((if back then 1 else 0:Nat)+1)],Cg into t ((i6 m t into k back l).1,ch||(i6 m t into k back l).2)++[.box (ae m),.box (zu (nth m.roads k))]⟩:=by
 have np:=h.np
 have nr:=h.nr
 have ok:=h.rs _ (aE hk)
 have r1:=Road.oV ok back
 have r2:=Road.rA ok back
 have wt:=Fc h k hk back
 have wl:=E4 h k hk back
 have b1:=hb _ (aE (l:=l) (j:=((nth m.roads k).src back).toNat) (by omega))
 have lo:=W5 into hi l (by omega) hb ((nth m.roads k).src back) ((nth m.roads k).dst back).toNat (by omega) (nth l ((nth m.roads k).src back).toNat+jk m k back 6 9 12) t ch
 have e:(((nth m.roads k).dst back).toNat:Int)=(nth m.roads k).dst back:=by omega
 rw[e]at lo
 rw[RV h t into hk back l]
 have ls:∀x,(l.set ((nth m.roads k).dst back).toNat x).length=l.length:=fun x=>List.length_set ..
 generalize jk m k back 6 9 12=v at*
 generalize hx:nth m.roads k=x at*
 clear hx ok
 obtain⟨frm,to,len,area,walk,closed,rl,rh,ll,lh⟩:=x
 obtain⟨aa,roads⟩:=m
 simp only at hl np nr hk
 have h01:(1:Int)=0+1:=rfl
 by_cases c1:0≤v
 · by_cases c2:nth l ((Road.mk frm to len area walk closed rl rh ll lh).src back).toNat<1099511627776
   · cases c3:O1 into l ((Road.mk frm to len area walk closed rl rh ll lh).dst back).toNat (max (nth l ((Road.mk frm to len area walk closed rl rh ll lh).src back).toNat+v) t)<;>
     cases back<;>simp only[Road.src,Road.dst,aLt,↓reduceIte]at* <;>simp only[c1,c2,c3,and_true,true_and,and_self,and_false,aLt,↓reduceIte]at lo ⊢ <;>
     cases into<;>simp only[smE,smD,smK,ae,zu,Cg,List.cons_append,List.nil_append]at* <;>
     simp(disch:=omega)only[go_sem,K.fm,↓reduceIte,wt,lo,c1,c2,ls,Bool.or_true,Bool.or_false,reduceAdd,reduceSub]
   · cases back<;>simp only[Road.src,Road.dst,aLt,↓reduceIte]at* <;>simp only[c1,c2,false_and,and_false,↓reduceIte]<;>
     cases into<;>simp only[smE,smD,smK,ae,zu,Cg,List.cons_append,List.nil_append]at* <;>
     simp(disch:=omega)only[go_sem,K.fm,↓reduceIte,wt,c1,c2,Bool.or_false,reduceAdd,reduceSub]
 · cases back<;>simp only[Road.src,Road.dst,aLt,↓reduceIte]at* <;>simp only[c1,false_and,↓reduceIte]<;>
   cases into<;>simp only[smE,smD,smK,ae,zu,Cg,List.cons_append,List.nil_append]at* <;>
   simp(disch:=omega)only[go_sem,K.fm,↓reduceIte,wt,c1,Bool.or_false,reduceAdd,reduceSub]
theorem RW{m:bq}(h:m.ok)(t:Int)(ht:0≤t)(ht2:t≤1000000000000)(into:Option (List Int))(hi:∀s,into=some s→s.length≤64)(l:List Int)(hl:l.length=m.aa.length)(hb:bnd l)(ch:Bool){k:Nat}(hk:k<m.roads.length):
 kV true [0,4,5,6,7,8,9,13,14] (Cg into t (l,ch)++[Obj.box (ae m)]).length (exS aL K.jI ⟨[.und,.ref 0 0 l.length,O2,.bp (smK into) 0,.und,.und,.und,.und,.und,.und,.t (.sl (m.roads.map Road.e)),I m.roads.length,I k,.und,.und],Cg into t (l,ch)++[.box (ae m)]⟩)=
  some ⟨[.und,.ref 0 0 (zm m t into k (l,ch)).1.length,O2,.bp (smK into) 0,.und,.und,.und,.und,.und,.und,.t (.sl (m.roads.map Road.e)),I m.roads.length,I (k+1),.und,.und],Cg into t (zm m t into k (l,ch))++[.box (ae m)]⟩:=by
 have nr:=h.nr
 have g:(m.roads.map Road.e)[k]?=some (nth m.roads k).e:=bE _ hk
 have h1:=Ec h t ht ht2 into hi l hl hb ch hk false
 have l1:(i6 m t into k false l).1.length=l.length:=uv ..
 have l2:(i6 m t into k true (i6 m t into k false l).1).1.length=l.length:=by rw[uv,l1]
 have h2:=Ec h t ht ht2 into hi (i6 m t into k false l).1 (by omega) (ya h hl hb hk false) (ch||(i6 m t into k false l).2) hk true
 have st:zm m t into k (l,ch)=((i6 m t into k true (i6 m t into k false l).1).1,ch||(i6 m t into k false l).2||(i6 m t into k true (i6 m t into k false l).1).2):=rfl
 rw[st]
 simp only[l1,l2,aLt,↓reduceIte]at h1 h2 ⊢
 have inner:∀z0 z6 z7 z8 z9:D,exS aL K.qc ⟨[z0,.ref 0 0 l.length,O2,.bp (smK into) 0,I k,.bp (smK into+1) 0,z6,z7,z8,z9,.t (.sl (m.roads.map Road.e)),I m.roads.length,I k,.t (.agg [.bool false,.bool true]),I 0],Cg into t (l,ch)++[.box (ae m),.box (zu (nth m.roads k))]⟩=
  some (.exit 2,⟨[.und,.ref 0 0 l.length,O2,.bp (smK into) 0,I k,.bp (smK into+1) 0,.und,.und,.und,.und,.t (.sl (m.roads.map Road.e)),I m.roads.length,I k,.t (.agg [.bool false,.bool true]),I 2],
   Cg into t ((i6 m t into k true (i6 m t into k false l).1).1,ch||(i6 m t into k false l).2||(i6 m t into k true (i6 m t into k false l).1).2)++[.box (ae m),.box (zu (nth m.roads k))]⟩):=by
  intro z0 z6 z7 z8 z9
  refine bH (fun j=>⟨[.und,.ref 0 0 l.length,O2,.bp (smK into) 0,I k,.bp (smK into+1) 0,.und,.und,.und,.und,.t (.sl (m.roads.map Road.e)),I m.roads.length,I k,.t (.agg [.bool false,.bool true]),I j],
   Cg into t (match j with | 0=>(l,ch) | 1=>((i6 m t into k false l).1,ch||(i6 m t into k false l).2) | _=>((i6 m t into k true (i6 m t into k false l).1).1,ch||(i6 m t into k false l).2||(i6 m t into k true (i6 m t into k false l).1).2))++[.box (ae m),.box (zu (nth m.roads k))]⟩) 2 rfl ?_ ?_ (by simp)
  · intro j hj
    have hj2:j=0∨j=1:=by omega
    rcases hj2 with rfl | rfl
    · exact h1
    · exact h2
  · clear h1 h2
    cases into<;>simp only[smE,smD,smK,ae,zu,Cg,List.cons_append,List.nil_append]<;>
    simp(disch:=omega)only[go_sem,K.fm,↓reduceIte,reduceAdd,reduceSub]
 clear h1 h2 st
 generalize i6 m t into k true (i6 m t into k false l).1=b2 at*
 generalize i6 m t into k false l=b1 at*
 generalize hx:nth m.roads k=x at*
 clear hx
 obtain⟨frm,to,len,area,walk,closed,rl,rh,ll,lh⟩:=x
 obtain⟨aa,roads⟩:=m
 simp only at nr hk
 cases into<;>simp only[smE,smD,smK,ae,zu,Cg,List.cons_append,List.nil_append]at* <;>
 simp(disch:=omega)only[go_sem,K.jI,↓reduceIte,g,inner,l2,reduceAdd,reduceSub]
theorem Jz{m:bq}(h:m.ok)(t:Int)(ht:0≤t)(ht2:t≤1000000000000)(into:Option (List Int))(hi:∀s,into=some s→s.length≤64)(l:List Int)(hl:l.length=m.aa.length)(hb:bnd l)(ch:Bool):
 aL 0 N.dE [.t m.e,.ref 0 0 l.length,O2] (Cg into t (l,ch))=some (.tup [],Cg into t ((fy m t into l).1,ch||(fy m t into l).2)):=by
 refine aj K.nj rfl ?_
 have nr:=h.nr
 have ls:=fun k=>gL m t into l k
 have loop:∀z0 z4 z5 z6 z7 z8 z9 z13 z14:D,exS aL K.qd ⟨[z0,.ref 0 0 l.length,O2,.bp (smK into) 0,z4,z5,z6,z7,z8,z9,.t (.sl (m.roads.map Road.e)),I m.roads.length,I 0,z13,z14],Cg into t (l,ch)++[.box (ae m)]⟩=
  some (.exit 0,⟨[.und,.ref 0 0 l.length,O2,.bp (smK into) 0,.und,.und,.und,.und,.und,.und,.t (.sl (m.roads.map Road.e)),I m.roads.length,I m.roads.length,.und,.und],Cg into t ((fy m t into l).1,ch||(fy m t into l).2)++[.box (ae m)]⟩):=by
  intro z0 z4 z5 z6 z7 z8 z9 z13 z14
  refine bH (fun j=>⟨[.und,.ref 0 0 l.length,O2,.bp (smK into) 0,.und,.und,.und,.und,.und,.und,.t (.sl (m.roads.map Road.e)),I m.roads.length,I j,.und,.und],Cg into t ((iM m t into l j).1,ch||(iM m t into l j).2)++[.box (ae m)]⟩) m.roads.length ?_ ?_ ?_ (by simp)
  · simp only[iM,Bool.or_false];rfl
  · intro j hj
    have r:=RW h t ht ht2 into hi (iM m t into l j).1 (by rw[ls,hl]) (oS h hl hb j (by omega)) (ch||(iM m t into l j).2) hj
    have e:zm m t into j ((iM m t into l j).1,ch||(iM m t into l j).2)=((iM m t into l (j+1)).1,ch||(iM m t into l (j+1)).2):=by
     simp only[iM,zm,Bool.or_assoc]
    rw[e]at r
    simp only[ls]at r
    exact r
  · clear ls
    cases into<;>simp only[smE,smD,smK,ae,zu,Cg,List.cons_append,List.nil_append]<;>
    simp(disch:=omega)only[go_sem,K.jI,↓reduceIte,fy,reduceAdd,reduceSub]
 have l2:(fy m t into l).1.length=l.length:=by unfold fy;rw[ls]
 clear ls
 generalize fy m t into l=r at*
 obtain⟨r1,r2⟩:=r
 obtain⟨aa,roads⟩:=m
 simp only at nr hl l2
 cases into<;>simp only[smE,smD,smK,ae,zu,Cg,List.cons_append,List.nil_append]at* <;>
 simp(disch:=omega)only[go_sem,K.dE,↓reduceIte,loop,l2,reduceAdd,reduceSub]
section
variable (a0 a1 a2 a3 a4 a5 x y : Obj) (ds : aq)
theorem TN:(a0::a1::a2::a3::a4::(ds++[x]))[ds.length+5]?=some x:=by simp
theorem adk:(a0::a1::a2::a3::a4::(ds++[x])).set (ds.length+5) y=a0::a1::a2::a3::a4::(ds++[y]):=by simp
theorem TO:(a0::a1::a2::a3::a4::a5::(ds++[x]))[ds.length+6]?=some x:=by simp
theorem adl:(a0::a1::a2::a3::a4::a5::(ds++[x])).set (ds.length+6) y=a0::a1::a2::a3::a4::a5::(ds++[y]):=by simp
theorem TP(u:Obj):(ds++[u]++[x])[ds.length+1]?=some x:=by simp
theorem W6(u:Obj):(a0::a1::a2::a3::a4::(ds++[u]++[x])).set (ds.length+1+1+1+1+1+1) y=a0::a1::a2::a3::a4::(ds++[u]++[y]):=by simp
theorem W7(u:Obj):(a0::a1::a2::a3::a4::a5::(ds++[u]++[x])).set (ds.length+1+1+1+1+1+1+1) y=a0::a1::a2::a3::a4::a5::(ds++[u]++[y]):=by simp
theorem adm:(ds++[x]).length=ds.length+1:=by simp
end
@[go_sem] theorem agt (n : Nat) : eqB n n = true := by
 induction n with
 | zero=>rfl
 | succ n ih=>exact ih
abbrev TQ(m:bq)(into:Option (List Int))(t:Int)(l:List Int)(ds:aq)(c:Bool):aq:=match into with
 | none=> .box (ae m):: .box [I t]:: .box [.fn N.dZ []]::Fb l:: .box [.ref 3 0 l.length]::(ds++[.box [B c]])
 | some s=> .box [.t (tL s)]:: .box (ae m):: .box [I t]:: .box [.fn N.b5 [.bp 0 0]]::Fb l:: .box [.ref 4 0 l.length]::(ds++[.box [B c]])
abbrev JA(m:bq)(into:Option (List Int))(t:Int)(l:List Int)(ds:aq)(c:Bool):St:=match into with
 | none=>⟨[.und,.und,.und,.und,.bp 0 0,.bp 1 0,.bp 2 0,.und,.bp 4 0,.bp (ds.length+5) 0,.und],TQ m none t l ds c⟩
 | some s=>⟨[.und,.und,.und,.und,.bp 1 0,.bp 2 0,.bp 3 0,.und,.bp 5 0,.bp (ds.length+6) 0,.und],TQ m (some s) t l ds c⟩
theorem O3{m:bq}(h:m.ok)(t:Int)(ht:0≤t)(ht2:t≤1000000000000)(into:Option (List Int))(hi:∀s,into=some s→s.length≤64)(l:List Int)(hl:l.length=m.aa.length)(hb:bnd l)(ds:aq)(k:Nat):
 kV false [0,1,2,3,7,10] k (exS aL K.dq (JA m into t l ds true))=some (JA m into t (fy m t into l).1 (ds++[.box [B (fy m t into l).2]]) (fy m t into l).2):=by
 have nr:=h.nr
 have ar:=Jz h t ht ht2 into hi l hl hb false
 have l2:(fy m t into l).1.length=l.length:=by unfold fy;rw[gL]
 cases into with
 | none=>
   generalize fy m t none l=r at*
   obtain⟨r1,r2⟩:=r
   obtain⟨aa,roads⟩:=m
   simp only[TQ,JA,Cg,smE,smD,ae,Bool.false_or]at*
   simp(disch:=omega)only[go_sem,K.dq,↓reduceIte,ar,TN,adk,adm,l2,TP,W6,reduceAdd,reduceSub]
 | some s=>
   generalize fy m t (some s) l=r at*
   obtain⟨r1,r2⟩:=r
   obtain⟨aa,roads⟩:=m
   simp only[TQ,JA,Cg,smE,smD,ae,Bool.false_or]at*
   simp(disch:=omega)only[go_sem,K.dq,↓reduceIte,ar,TO,adl,adm,l2,TP,W7,reduceAdd,reduceSub]
theorem RX(m:bq)(into:Option (List Int))(t:Int)(l:List Int)(ds:aq):exS aL K.dq (JA m into t l ds false)=some (.exit 0,JA m into t l ds false):=by
 obtain⟨aa,roads⟩:=m
 cases into with
 | none=>
   simp only[TQ,JA,ae]
   simp(disch:=omega)only[go_sem,K.dq,↓reduceIte,TN,reduceAdd,reduceSub]
 | some s=>
   simp only[TQ,JA,ae]
   simp(disch:=omega)only[go_sem,K.dq,↓reduceIte,TO,reduceAdd,reduceSub]
theorem Fe{m:bq}(h:m.ok)(t:Int)(ht:0≤t)(ht2:t≤1000000000000)(into:Option (List Int))(hi:∀s,into=some s→s.length≤64):∀(n:Nat) (l:List Int) (ds:aq),nD l<n→l.length=m.aa.length→bnd l→
 ∃ds',oX false [0,1,2,3,7,10] (exS aL K.dq) (JA m into t l ds true)=some (.exit 0,JA m into t (fw (fy m t into) n l) ds' false)
 | 0,l,ds,hn,_,_=>absurd hn (by omega)
 | n+1,l,ds,hn,hl,hb=>by
   have r:=O3 h t ht ht2 into hi l hl hb ds (JA m into t l ds true).H.length
   have s:=(zo h (t:=t) (into:=into) hl hb m.roads.length (aLs _)).1
   change (fy m t into l).2=true→nD (fy m t into l).1<nD l at s
   unfold fw
   cases hc:(fy m t into l).2 with
   | true=>
     rw[hc]at r
     obtain⟨ds',h2⟩:=Fe h t ht ht2 into hi n (fy m t into l).1 _ (by have:=s hc;omega) (by unfold fy;rw[gL,hl]) (oS h hl hb _ (aLs _))
     exact⟨ds',lN r h2⟩
   | false=>
     rw[hc]at r
     exact⟨_,lN r (fW (RX m into t _ _) (by simp))⟩
theorem Mc{m:bq}(h:m.ok)(t:Int)(ht:0≤t)(ht2:t≤1000000000000)(l:List Int)(hl:l.length=m.aa.length)(hb:bnd l):
 aL 0 N.bU [.t m.e,.t (tL l),I t,.fn N.dZ []] []=some (.t (tL (mT m t none l)),[])∧
 ∀s:List Int,s.length≤64→aL 1 N.bU [.t m.e,.t (tL l),I t,.fn N.b5 [.bp 0 0]] [.box [.t (tL s)]]=some (.ref 1 0 l.length,[.box [.t (tL s)],Fb (mT m t (some s) l)]):=by
 have np:=h.np
 have c1:=O0 l (by omega)
 have ln:∀into,(mT m t into l).length=l.length:=by
  intro into
  have key:∀n l,(fw (fy m t into) n l).length=l.length:=by
   intro n
   induction n with
   | zero=>intro l;rfl
   | succ n ih=>
     intro l
     unfold fw
     split
     · rw[ih];unfold fy;rw[gL]
     · unfold fy;rw[gL]
  exact key _ _
 refine⟨aj K.ly rfl ?_,fun s hs=>aj K.ly rfl ?_⟩
 · obtain⟨ds,lp⟩:=Fe h t ht ht2 none (by simp) (nD l+1) l [] (Nat.lt_succ_self _) hl hb
   have ln:=ln none
   have lp:∀z0 z1 z2 z3 z7 z10:D,exS aL K.nh ⟨[z0,z1,z2,z3,.bp 0 0,.bp 1 0,.bp 2 0,z7,.bp 4 0,.bp 5 0,z10],[.box (ae m),.box [I t],.box [.fn N.dZ []],Fb l,.box [.ref 3 0 l.length],.box [B true]]⟩=some (.exit 0,JA m none t (mT m t none l) ds false):=fun z0 z1 z2 z3 z7 z10=>lp
   generalize mT m t none l=r at*
   obtain⟨aa,roads⟩:=m
   simp only[TQ,JA,ae]at*
   simp(disch:=omega)only[go_sem,K.bU,↓reduceIte,c1,lp,ln,reduceAdd,reduceSub]
 · obtain⟨ds,lp⟩:=Fe h t ht ht2 (some s) (by intro s' h;cases h;exact hs) (nD l+1) l [] (Nat.lt_succ_self _) hl hb
   have l2:=ln (some s)
   clear ln
   have lp:∀z0 z1 z2 z3 z7 z10:D,exS aL K.nh ⟨[z0,z1,z2,z3,.bp 1 0,.bp 2 0,.bp 3 0,z7,.bp 5 0,.bp 6 0,z10],[.box [.t (tL s)],.box (ae m),.box [I t],.box [.fn N.b5 [.bp 0 0]],Fb l,.box [.ref 4 0 l.length],.box [B true]]⟩=some (.exit 0,JA m (some s) t (mT m t (some s) l) ds false):=fun z0 z1 z2 z3 z7 z10=>lp
   generalize mT m t (some s) l=r at*
   obtain⟨aa,roads⟩:=m
   simp only[TQ,JA,ae]at*
   simp(disch:=omega)only[go_sem,K.bU,↓reduceIte,c1,lp,l2,reduceAdd,reduceSub]
end Go.Ev
namespace Go.Ev
open Go
variable [Lib] [bO] [bL]
def Md(a b:List Int):Bool:=match (List.range (min a.length b.length)).find? (fun j=>decide (nth a j≠nth b j))with
 | some j=>decide (nth a j<nth b j)
 | none=>decide (a.length<b.length)
def j6(l:List Int)(x:Int):Int:=match (List.range l.length).find? (fun j=>decide (nth l j=x))with
 | some j=>j
 | none=> -1
theorem G8(l:List Int)(x:Int)(hl:l.length≤1000000):aL 0 N.gB [.t (tL l),I x] []=some (I (j6 l x),[]):=by
 refine aj K.qx rfl ?_
 have loop:∀c:D,exS aL K.uj ⟨[.t (tL l),I x,c,I 0],[]⟩=
  some (match (List.range l.length).find? (fun j=>decide (nth l j=x))with
   | some j=>(.ret,⟨[.t (tL l),I x,I j,I j],[]⟩)
   | none=>(.exit 0,⟨[.t (tL l),I x,.und,I l.length],[]⟩)):=by
  intro c
  refine fY (fun j=>⟨[.t (tL l),I x,.und,I j],[]⟩) l.length (fun j=>decide (nth l j=x)) _ _ rfl ?_ ?_ ?_ (by simp)
  · intro j hj hp
    have hp:¬nth l j=x:=by simpa using hp
    simp(disch:=omega)only[go_sem,K.lx,↓reduceIte]
  · intro j hj hp
    have hp:nth l j=x:=by simpa using hp
    refine⟨?_,by simp⟩
    simp(disch:=omega)only[go_sem,K.lx,↓reduceIte,hp]
  · simp(disch:=omega)only[go_sem,K.lx,↓reduceIte]
 unfold j6
 simp(disch:=omega)only[go_sem,K.gB,↓reduceIte,loop]
 cases hf:(List.range l.length).find? (fun j=>decide (nth l j=x))with
 | some j=>simp(disch:=omega)only[go_sem,↓reduceIte]
 | none=>simp(disch:=omega)only[go_sem,↓reduceIte]
theorem Me{l:List Int}{x:Int}(h:0≤j6 l x):j6 l x<l.length∧nth l (j6 l x).toNat=x:=by
 unfold j6 at h ⊢
 cases hf:(List.range l.length).find? (fun j=>decide (nth l j=x))with
 | some j=>
   obtain⟨h1,h2⟩:=Oy hf
   simp only[Int.toNat_natCast]
   exact⟨by omega,of_decide_eq_true h2⟩
 | none=>rw[hf]at h;simp at h
def pj(l:List Int)(j:Nat):Bool:=decide (1≤nth l j∧nth l j≤65535∧j6 (l.take j) (nth l j)<0)
def fJ(l:List Int):Bool:=(List.range l.length).all (pj l)
theorem O4(l:List Int)(hl:l.length≤1000000):aL 0 N.gA [.t (tL l)] []=some (B (fJ l),[]):=by
 refine aj K.qv rfl ?_
 have loop:∀c:D,exS aL K.ug ⟨[.t (tL l),c,I 0],[]⟩=
  some (match (List.range l.length).find? (fun j=> !pj l j)with
   | some j=>(.ret,⟨[.t (tL l),B false,I j],[]⟩)
   | none=>(.exit 0,⟨[.t (tL l),.und,I l.length],[]⟩)):=by
  intro c
  refine fY (fun j=>⟨[.t (tL l),.und,I j],[]⟩) l.length (fun j=> !pj l j) _ _ rfl ?_ ?_ ?_ (by simp)
  · intro j hj hp
    have hp:pj l j=true:=by simpa using hp
    have b:=G8 (l.take j) (nth l j) (by rw[List.length_take];omega)
    simp only[pj,decide_eq_true_eq]at hp
    simp only[tL,List.map_take]at b
    simp(disch:=omega)only[go_sem,K.iD,↓reduceIte,b]
  · intro j hj hp
    have hp:pj l j=false:=by simpa using hp
    have b:=G8 (l.take j) (nth l j) (by rw[List.length_take];omega)
    simp only[pj,decide_eq_false_iff_not]at hp
    simp only[tL,List.map_take]at b
    refine⟨?_,by simp⟩
    by_cases h1:nth l j<1
    · simp(disch:=omega)only[go_sem,K.iD,↓reduceIte,b]
    · by_cases h2:65535<nth l j
      · simp(disch:=omega)only[go_sem,K.iD,↓reduceIte,b]
      · simp(disch:=omega)only[go_sem,K.iD,↓reduceIte,b]
  · simp(disch:=omega)only[go_sem,K.iD,↓reduceIte]
 unfold fJ
 rw[E2]
 simp(disch:=omega)only[go_sem,K.gA,↓reduceIte,loop]
 cases hf:(List.range l.length).find? (fun j=> !pj l j)with
 | some j=>simp(disch:=omega)only[go_sem,↓reduceIte,Option.isNone]
 | none=>simp(disch:=omega)only[go_sem,↓reduceIte,Option.isNone]
structure World where
 tags:List Int
 whr:List Wh
instance : Dat World := ⟨⟨[], []⟩⟩
abbrev World.e(x:World):T:= .agg [tL x.tags,.sl (x.whr.map Wh.e)]
structure Bel where
 fD:List World
instance : Dat Bel := ⟨⟨[]⟩⟩
abbrev Bel.e(b:Bel):T:= .agg [.sl (b.fD.map World.e)]
def World.sz(x:World):Prop:=x.tags.length≤1000000∧x.whr.length≤1000000∧∀w∈x.whr,w.frm.length≤1000000
def Bel.sz(b:Bel):Prop:=b.fD.length≤1000000∧∀x∈b.fD,x.sz
@[go_sem] theorem W8 (l : List Wh) : bV 2 (l.map Wh.e) = true := fF 2 _ (fun _ => rfl) l
@[go_sem] theorem Qk (l : List World) : bV 2 (l.map World.e) = true := fF 2 _ (fun _ => rfl) l
@[go_sem] theorem agu (l : List Wh) : nH 2 (l.map Wh.e) = true := by cases l <;> rfl
@[go_sem] theorem W9 (l : List World) : nH 2 (l.map World.e) = true := by cases l <;> rfl
theorem Da(x:World)(h:x.sz)(a:D):exS aL K.p7 ⟨[a,.bp 0 0,.bp 1 0,.bp 3 0,I 0],[.box [.t (tL x.tags),.t (.sl (x.whr.map Wh.e))],.box [.nil,.nil],.arr 1 false 0 ((x.tags.map (T.int .i64)).map .t),.box [.ref 2 0 x.tags.length,.ref 5 0 0],.arr 2 false 0 [],.arr 2 false 0 []]⟩=
 some (.exit 0,⟨[.und,.bp 0 0,.bp 1 0,.bp 3 0,I x.whr.length],[.box [.t (tL x.tags),.t (.sl (x.whr.map Wh.e))],.box [.nil,.nil],.arr 1 false 0 ((x.tags.map (T.int .i64)).map .t),.box [.ref 2 0 x.tags.length,.ref 5 0 x.whr.length],.arr 2 false 0 [],.arr 2 false 0 ((x.whr.map Wh.e).map .t)]⟩):=by
 obtain⟨tags,whr⟩:=x
 obtain⟨h1,h2,h3⟩:=h
 simp only at h1 h2 h3 ⊢
 have tk:whr.take whr.length=whr:=by simp
 refine bH (fun j=>⟨[.und,.bp 0 0,.bp 1 0,.bp 3 0,I j],[.box [.t (tL tags),.t (.sl (whr.map Wh.e))],.box [.nil,.nil],.arr 1 false 0 ((tags.map (T.int .i64)).map .t),.box [.ref 2 0 tags.length,.ref 5 0 (whr.take j).length],.arr 2 false 0 [],.arr 2 false 0 (((whr.take j).map Wh.e).map .t)]⟩) whr.length rfl ?_ ?_ (by simp)
 · intro j hj
   have c:=Wn (nth whr j) (by have:=h3 _ (aE hj);omega)
   have lt:(whr.take j).length=j:=by rw[List.length_take];omega
   generalize hx:nth whr j=w at*
   obtain⟨time,frm⟩:=w
   have tk:whr.take (j+1)=whr.take j++[⟨time,frm⟩]:=by rw[jd hj,hx]
   generalize whr.take j=pre at*
   simp(disch:=omega)only[go_sem,K.lC,↓reduceIte,hx,c,lt,tk,reduceAdd,reduceSub]
 · simp(disch:=omega)only[go_sem,K.lC,↓reduceIte,tk]
theorem G9(x:World)(h:x.sz):aL 0 N.dz [.t x.e] []=some (.t x.e,[]):=by
 refine aj K.m9 rfl ?_
 have loop:=Da x h
 obtain⟨tags,whr⟩:=x
 obtain⟨h1,h2,h3⟩:=h
 simp only at h1 h2 h3 loop ⊢
 simp(disch:=omega)only[go_sem,K.dz,↓reduceIte,loop]
theorem Hc(l:List World)(h1:l.length≤1000000)(h2:∀x∈l,x.sz)(a:D):exS aL K.x0 ⟨[a,.bp 0 0,.bp 1 0,.bp 2 0,I 0],[.box [.t (.sl (l.map World.e))],.box [.nil],.box [.ref 3 0 0],.arr 2 false 0 []]⟩=
 some (.exit 0,⟨[.und,.bp 0 0,.bp 1 0,.bp 2 0,I l.length],[.box [.t (.sl (l.map World.e))],.box [.nil],.box [.ref 3 0 l.length],.arr 2 false 0 ((l.map World.e).map .t)]⟩):=by
 have tk:l.take l.length=l:=by simp
 refine bH (fun j=>⟨[.und,.bp 0 0,.bp 1 0,.bp 2 0,I j],[.box [.t (.sl (l.map World.e))],.box [.nil],.box [.ref 3 0 (l.take j).length],.arr 2 false 0 (((l.take j).map World.e).map .t)]⟩) l.length rfl ?_ ?_ (by simp)
 · intro j hj
   have c:=G9 (nth l j) (h2 _ (aE hj))
   have lt:(l.take j).length=j:=by rw[List.length_take];omega
   generalize hx:nth l j=w at*
   obtain⟨tags,whr⟩:=w
   have tk:l.take (j+1)=l.take j++[⟨tags,whr⟩]:=by rw[jd hj,hx]
   generalize l.take j=pre at*
   simp(disch:=omega)only[go_sem,K.qw,↓reduceIte,hx,c,lt,tk,reduceAdd,reduceSub]
 · simp(disch:=omega)only[go_sem,K.qw,↓reduceIte,tk]
theorem Ed(b:Bel)(h:b.sz):aL 0 N.iC [.t b.e] []=some (.t b.e,[]):=by
 refine aj K.uk rfl ?_
 obtain⟨h1,h2⟩:=h
 have loop:=Hc b.fD h1 h2
 obtain⟨l⟩:=b
 simp only at h1 h2 loop ⊢
 simp(disch:=omega)only[go_sem,K.iC,↓reduceIte,loop]
def akS(m:bq)(first:List Int)(x:World)(k:Nat):Bool:=decide (0≤j6 first (nth x.tags k))&&G1 m (nth x.whr k)
def TR(m:bq)(ws:List World)(first:List Int)(i:Nat):Bool:=
 decide ((nth ws i).tags.length=first.length∧(nth ws i).whr.length=first.length)&&fJ (nth ws i).tags&&(decide (i=0)||Md (nth ws (i-1)).tags (nth ws i).tags)&&(List.range (nth ws i).tags.length).all (akS m first (nth ws i))
def agv(m:bq)(b:Bel):Bool:=
 decide (1≤b.fD.length∧b.fD.length≤24)&&decide (1≤(nth b.fD 0).tags.length∧(nth b.fD 0).tags.length≤12)&&(List.range b.fD.length).all (TR m b.fD (nth b.fD 0).tags)
end Go.Ev
namespace Go.Ev.K
open Go.Ev
def bS:Fn:= { aD:=2,vars:=[0,1,2,3,4,34,50],body:=(q [w 2 (.bx v0 3),w 3 (.bx v1 4),x 4 (.b false)] [] (.seq (.ite [f 0 v2,g l0,u (.ln l0),u (.bin .eql l0 (.i 0)),m l0,y 0 false (.fa v2 0),i 1 false l0,y 2 false (.ca N.bM 0 [] [.l 0,.i 0,.i 63]),y 3 false (.un .not l0),u (.pk l4 (.b true) l0),m l0,y 0 false (.fa v2 1),i 1 false l0,y 2 false (.ca N.bc 0 [] [.l 0,.i 1,.i 100000]),y 3 false (.un .not l0),u (.pk l4 (.b true) l0),m l0,y 0 false (.fa v2 2),i 1 false l0,y 2 false (.ca N.bc 0 [] [.l 0,.i 1,.i 100000]),y 3 false (.un .not l0),u (.pk l4 (.b true) l0),m l0,y 0 false (.fa v3 3),i 1 false l0,y 2 false (.ca N.bc 0 [] [.l 0,.i 0,.i 2147483648]),y 3 false (.un .not l0),u (.pk l4 (.b true) l0)] [] 0 (q [x 4 (.b false)] [] .ret) .skip) (.seq (q [f 0 v3,w 5 (.ld l0 1 false)] [] (.blk 0 (.ite [u (.bin .eql v5 (.i 0)),m l0] [] 0 (q [h 4 v3,u (.bd [z0,z0,z0,z0] []),u (.eqk (.ints 4) false l1 l0),x 4 l0] [] .ret) (.ite [u (.bin .eql v5 (.i 1)),m l0] [] 0 (q [f 1 v3,g l0,u (.bin .gtr l0 (.i 0)),m l0,y 0 true (.fa v3 2),i 1 true l0,y 2 true (.bin .eql l0 (.i 0)),u (.pk l3 l0 (.b false)),x 4 l0] [] .ret) (.seq (q [u (.bin .eql v5 (.i 2)),x 6 l0] [] (.itv 6 .skip (q [u (.bin .eql v5 (.i 3)),x 6 l0] [] (.itv 6 .skip (.reg [u (.bin .eql v5 (.i 4)),x 6 l0] []))))) (.itv 6 (q [f 1 v3,g l0,u (.bin .gtr l0 (.i 0)),m l0,y 0 true (.fa v3 2),i 1 true l0,y 2 true (.bin .gtr l0 (.i 0)),u (.pk l3 l0 (.b false)),m l0,y 0 true (.fa v3 1),i 1 true l0,y 2 true (.fa v3 2),i 3 true l0,y 4 true (.bin .neq l2 l0),u (.pk l5 l0 (.b false)),x 4 l0] [] .ret) .skip)))))) (q [x 4 (.b false)] [] .ret)))),res:=[(4,none)]}
def od:C:= (.seq (.ite [m v5,f 1 v2,g l0,u (.ln l0),u (.bin .lss l3 l0)] [] 0 .skip (.exit 0)) (.seq (.blk 1 (q [f 1 v2,g l0,m v5,a 10 l1 l0,h 10 l0,w 6 (.al [z0,z0,z0,z0,z1,z1,z0,z0,z0,z0] []),u (.st l0 l1 10 [])] [] (q [h 2 v2,m v5,u (.ca N.gJ 0 [] [.l 1,.l 0,.b false]),u (.bin .geq l0 (.i 0)),m l0,y 0 false (.ld v2 2 true),e 1 false v5,y 2 false (.ca N.gJ 0 [] [.l 1,.l 0,.b true]),y 3 false (.bin .geq l0 (.i 0)),u (.pk l4 (.b true) l0),x 7 l0] [] (.ite [f 5 v6,g l0,u (.un .not l0),m l0,e 0 true v7,u (.pk l1 l0 (.b false)),m l0,e 0 true v1,y 1 true (.fa v6 0),i 2 true l0,y 3 true (.ca N.iL 0 [] [.l 2,.l 0]),e 4 true v1,y 5 true (.fa v6 1),i 6 true l0,y 7 true (.ca N.iL 0 [] [.l 2,.l 0]),y 8 true (.eqk (.bool) true l4 l0),u (.pk l9 l0 (.b false))] [(13,0)] 0 (.reg [m v4,m v5,u (.bs [.l 0] 1),u (.app l2 l0 true 1),x 4 l0] []) .skip)))) (.reg [m v5,u (.bin .add l0 (.i 1)),x 5 l0] [])))
def uE:C:= .loop true [0,3,6,7] K.od
def gD:Fn:= { aD:=2,vars:=[0,1,2,4,5,6,7,8],body:=(q [w 2 (.bx v0 2),w 3 (.mv (.c (.nil)))] [] (q [w 4 (.nw 1)] [] (.seq (q [x 5 (.i 0)] [] (.blk 0 K.uE)) (q [m v4,x 3 l0] [] .ret)))),res:=[(3,none)]}
end Go.Ev.K
namespace Go.Ev
class dL [Lib]:Prop where
 qD:Lib.fs N.bS=some K.bS
 qE:Lib.fs N.gD=some K.gD
namespace K
variable [Lib] [dL]
theorem qD:Lib.fs N.bS=some K.bS:=dL.qD
theorem qE:Lib.fs N.gD=some K.gD:=dL.qE
end K
end Go.Ev
namespace Go.Ev.K
open Go.Ev
def cY:Fn:= { aD:=2,vars:=[0,1,2,3,4],body:=(q [w 2 (.bx v0 3),w 3 (.bx v1 4),x 4 (.b false)] [] (.seq (.ite [h 3 v2,u (.ca N.gj 0 [] [.l 0]),u (.un .not l0),m l0,y 0 false (.fa v3 0),i 1 false l0,y 2 false (.bin .lss l0 (.i 0)),u (.pk l3 (.b true) l0),m l0,y 0 false (.fa v3 0),i 1 false l0,y 2 false (.bin .gtr l0 (.i 4)),u (.pk l3 (.b true) l0),m l0,y 0 false (.fa v3 3),i 1 false l0,y 2 false (.bin .lss l0 (.i 0)),u (.pk l3 (.b true) l0),m l0,y 0 false (.fa v3 3),i 1 false l0,y 2 false (.bin .gtr l0 (.i 2147483648)),u (.pk l3 (.b true) l0)] [] 0 (q [x 4 (.b false)] [] .ret) .skip) (.seq (.ite [f 0 v3,g l0,u (.bin .eql l0 (.i 0))] [] 0 (q [h 4 v3,u (.bd [z0,z0,z0,z0] []),u (.eqk (.ints 4) false l1 l0),x 4 l0] [] .ret) .skip) (.seq (.ite [f 0 v3,g l0,u (.bin .eql l0 (.i 1))] [] 0 (q [f 1 v3,g l0,u (.bin .gtr l0 (.i 0)),m l0,y 0 true (.fa v3 2),i 1 true l0,y 2 true (.bin .eql l0 (.i 0)),u (.pk l3 l0 (.b false)),x 4 l0] [] .ret) .skip) (q [f 1 v3,g l0,u (.bin .gtr l0 (.i 0)),m l0,y 0 true (.fa v3 2),i 1 true l0,y 2 true (.bin .gtr l0 (.i 0)),u (.pk l3 l0 (.b false)),m l0,y 0 true (.fa v3 1),i 1 true l0,y 2 true (.fa v3 2),i 3 true l0,y 4 true (.bin .neq l2 l0),u (.pk l5 l0 (.b false)),x 4 l0] [] .ret))))),res:=[(4,none)]}
def gk:C:= (.its [u (.bin .lss v8 v7)] [] 0 .skip (.exit 0) (.seq (.blk 1 (q [m v8,a 1 v6 v8,g l0,x 4 l2,x 5 l1] [] (.ite [m v5,m v1,u (.bin .lss l1 l0),m l0,e 0 false v5,e 1 false v2,y 2 false (.bin .gtr l1 l0),u (.pk l3 (.b true) l0),m l0,e 0 false v4,y 1 false (.bin .gtr l0 (.i 0)),e 2 false l0,e 0 true v5,e 1 true v0,e 2 true v4,y 3 true (.bin .sub l0 (.i 1)),y 4 true (.ia l2 l0 1),i 5 true l0,y 6 true (.bin .leq l5 l0),y 10 false (.pk l7 l0 (.b false)),u (.pk l11 (.b true) l0)] [] 0 (q [x 3 (.b false)] [] .ret) .skip))) (.reg [u (.bin .add v8 (.i 1)),x 8 l0] [])))
def uF:C:= .loop true [3,4,5] K.gk
def bM:Fn:= { aD:=3,vars:=[0,1,2,6,7,8,9,10,11],body:=(q [x 3 (.b false)] [] (.seq (q [x 6 v0,w 7 (.ln l0),x 8 (.i 0)] [] (.blk 0 K.uF)) (q [x 3 (.b true)] [] .ret))),res:=[(3,none)]}
def gj:Fn:= { aD:=1,vars:=[0,1,2],body:=(q [w 1 (.bx v0 3),x 2 (.b false)] [] (q [f 0 v1,g l0,u (.ln l0),u (.bin .gtr l0 (.i 0)),m l0,y 0 true (.fa v1 0),i 1 true l0,y 2 true (.ca N.gn 0 [] [.l 0,.i 64]),u (.pk l3 l0 (.b false)),m l0,y 0 true (.fa v1 1),i 1 true l0,y 2 true (.bin .geq l0 (.i 1)),u (.pk l3 l0 (.b false)),m l0,y 0 true (.fa v1 1),i 1 true l0,y 2 true (.bin .leq l0 (.i 100000)),u (.pk l3 l0 (.b false)),m l0,y 0 true (.fa v1 2),i 1 true l0,y 2 true (.bin .geq l0 (.i 1)),u (.pk l3 l0 (.b false)),m l0,y 0 true (.fa v1 2),i 1 true l0,y 2 true (.bin .leq l0 (.i 100000)),u (.pk l3 l0 (.b false)),x 2 l0] [] .ret)),res:=[(2,none)]}
def lS:Fn:= { aD:=1,vars:=[0,1,2,3],body:=(q [w 1 (.bx v0 3),x 2 (.b false)] [] (q [w 3 (.mv (.c (.fn N.jB [])))] [] (q [f 0 v1,g l0,u (.ca N.jl 0 [] [.l 0]),m l0,y 0 true (.fa v1 1),i 1 true l0,y 2 true (.ln l0),y 3 true (.fa v1 0),i 4 true l0,y 5 true (.ln l0),y 6 true (.bin .eql l3 l0),u (.pk l7 l0 (.b false)),m l0,y 0 true (.fa v1 1),i 1 true l0,e 2 true v3,y 3 true (.ca N.ax 0 [] [.l 1,.l 0]),y 4 true (.un .not l0),u (.pk l5 l0 (.b false)),m l0,y 0 true (.fa v1 2),i 1 true l0,y 2 true (.un .not l0),e 3 true l0,y 0 false (.ld v1 3 true),y 1 false (.ca N.lT 0 [] [.l 0]),y 6 true (.pk l2 (.b true) l0),u (.pk l7 l0 (.b false)),x 2 l0] [] .ret))),res:=[(2,none)]}
def gY:C:= (.seq (.ite [m v3,f 1 v1,g l0,u (.ln l0),u (.bin .lss l3 l0)] [] 0 .skip (.exit 0)) (.seq (.blk 1 (.ite [f 1 v1,g l0,m v3,a 1 l1 l0,g l0,u (.bin .lss l0 (.i 0)),m l0,y 0 false (.fa v1 1),i 1 false l0,e 2 false v3,y 3 false (.ia l1 l0 1),i 4 false l0,y 5 false (.bin .gtr l0 (.i 2)),u (.pk l6 (.b true) l0),m l0,y 0 false (.fa v1 2),i 1 false l0,e 2 false l0,y 0 true (.fa v1 1),i 1 true l0,e 2 true v3,y 3 true (.ia l1 l0 1),i 4 true l0,y 5 true (.bin .neq l0 (.i 2)),y 9 false (.pk l6 l0 (.b false)),u (.pk l10 (.b true) l0)] [] 0 (q [x 2 (.b false)] [] .ret) .skip)) (.reg [m v3,u (.bin .add l0 (.i 1)),x 3 l0] [])))
def wz:C:= .loop true [0,2] K.gY
def dT:Fn:= { aD:=1,vars:=[0,1,2,3],body:=(q [w 1 (.bx v0 3),x 2 (.b false)] [] (.seq (.ite [f 0 v1,g l0,u (.ln l0),u (.bin .lss l0 (.i 1)),m l0,y 0 false (.fa v1 0),i 1 false l0,y 2 false (.ln l0),y 3 false (.bin .gtr l0 (.i 12)),u (.pk l4 (.b true) l0),m l0,y 0 false (.fa v1 0),i 1 false l0,y 2 false (.ca N.gn 0 [] [.l 0,.i 128]),y 3 false (.un .not l0),u (.pk l4 (.b true) l0),m l0,y 0 false (.fa v1 1),i 1 false l0,y 2 false (.ln l0),y 3 false (.fa v1 0),i 4 false l0,y 5 false (.ln l0),y 6 false (.bin .neq l3 l0),u (.pk l7 (.b true) l0)] [] 0 (q [x 2 (.b false)] [] .ret) .skip) (.seq (q [x 3 (.i 0)] [] (.blk 0 K.wz)) (q [x 2 (.b true)] [] .ret)))),res:=[(2,none)]}
def iE:Fn:= { aD:=1,vars:=[0,1,2],body:=(q [w 1 (.bx v0 2),w 2 (.al [.nil,.nil] [])] [] (q [f 0 v1,g l0,u (.app (.c (.nil)) l0 true 2),f 1 v1,g l0,u (.app (.c (.nil)) l0 true 10),u (.bd [.nil,.nil] [(0,1,.l 3),(1,1,.l 0)]),u (.st v2 l0 2 [])] [(4,0)] .ret)),res:=[(2,some (2,true))]}
def jB:Fn:= { aD:=1,vars:=[0,2],body:=(q [x 1 (.b false)] [] (q [m v0,u (.ca N.bc 0 [] [.l 0,.i 0,.i 2]),u (.un .not l0),x 1 l0] [] .ret)),res:=[(1,none)]}
def jl:Fn:= { aD:=1,vars:=[0,2],body:=(q [x 1 (.b false)] [] (q [m v0,u (.ln l0),u (.ca N.bc 0 [] [.l 0,.i 1,.i 12]),m l0,e 0 true v0,y 1 true (.ca N.bM 0 [] [.l 0,.i 0,.i 127]),u (.pk l2 l0 (.b false)),x 1 l0] [] .ret)),res:=[(1,none)]}
def lT:Fn:= { aD:=1,vars:=[0,1,2],body:=(q [w 1 (.bx v0 3),x 2 (.b false)] [] (q [f 1 v1,g l0,u (.ca N.ax 0 [] [.l 0,.c (.fn N.jC [])]),u (.un .not l0),x 2 l0] [] .ret)),res:=[(2,none)]}
def jC:Fn:= { aD:=1,vars:=[0,2],body:=(q [x 1 (.b false)] [] (q [m v0,u (.bin .neq l0 (.i 2)),x 1 l0] [] .ret)),res:=[(1,none)]}
end Go.Ev.K
namespace Go.Ev
class dm [Lib]:Prop where
 sJ:Lib.fs N.cY=some K.cY
 qF:Lib.fs N.bM=some K.bM
 sK:Lib.fs N.gj=some K.gj
 Ay:Lib.fs N.lS=some K.lS
 sL:Lib.fs N.dT=some K.dT
 uG:Lib.fs N.iE=some K.iE
 wA:Lib.fs N.jB=some K.jB
 uH:Lib.fs N.jl=some K.jl
 Az:Lib.fs N.lT=some K.lT
 wB:Lib.fs N.jC=some K.jC
namespace K
variable [Lib] [dm]
theorem sJ:Lib.fs N.cY=some K.cY:=dm.sJ
theorem qF:Lib.fs N.bM=some K.bM:=dm.qF
theorem sK:Lib.fs N.gj=some K.gj:=dm.sK
theorem Ay:Lib.fs N.lS=some K.lS:=dm.Ay
theorem sL:Lib.fs N.dT=some K.dT:=dm.sL
theorem uG:Lib.fs N.iE=some K.iE:=dm.uG
theorem wA:Lib.fs N.jB=some K.jB:=dm.wA
theorem uH:Lib.fs N.jl=some K.jl:=dm.uH
theorem Az:Lib.fs N.lT=some K.lT:=dm.Az
theorem wB:Lib.fs N.jC=some K.jC:=dm.wB
end K
end Go.Ev
namespace Go.Ev
open Go
variable [Lib] [bO] [bL] [dL] [dm]
def O5(l:List Int)(lo hi:Int)(j:Nat):Bool:= !decide (lo≤nth l j∧nth l j≤hi∧(0<j→nth l (j-1)<nth l j))
def Hd(l:List Int)(lo hi:Int):Bool:= !((List.range l.length).any (O5 l lo hi))
theorem mF(l:List Int)(lo hi:Int)(hl:l.length≤4294967296):aL 0 N.bM [.t (tL l),I lo,I hi] []=some (B (Hd l lo hi),[]):=by
 refine aj K.qF rfl ?_
 have loop:∀a b c:D,exS aL K.uF ⟨[.t (tL l),I lo,I hi,a,b,c,.t (tL l),I l.length,I 0],[]⟩=
  some (if(List.range l.length).any (O5 l lo hi)=true
   then(.ret,⟨[.t (tL l),I lo,I hi,B false,I (uw l.length (O5 l lo hi)),I (nth l (uw l.length (O5 l lo hi))),.t (tL l),I l.length,I (uw l.length (O5 l lo hi))],[]⟩)
   else(.exit 0,⟨[.t (tL l),I lo,I hi,.und,.und,.und,.t (tL l),I l.length,I l.length],[]⟩)):=by
  intro a b c
  refine pc (fun j=>⟨[.t (tL l),I lo,I hi,.und,.und,.und,.t (tL l),I l.length,I j],[]⟩) l.length (O5 l lo hi) (fun j=>(.ret,⟨[.t (tL l),I lo,I hi,B false,I j,I (nth l j),.t (tL l),I l.length,I j],[]⟩)) _ rfl ?_ ?_ ?_ (by simp)
  · intro j hj hp
    simp only[O5,Bool.not_eq_false',decide_eq_true_eq]at hp
    obtain⟨h1,h2,h3⟩:=hp
    cases j with
    | zero=>simp(disch:=omega)only[go_sem,K.gk,↓reduceIte]
    | succ j=>
      have h3:=h3 (by omega)
      rw[Nat.add_sub_cancel]at h3
      simp(disch:=omega)only[go_sem,K.gk,↓reduceIte]
  · intro j hj hp
    simp only[O5,Bool.not_eq_true',decide_eq_false_iff_not]at hp
    refine⟨?_,by simp⟩
    by_cases h1:lo≤nth l j
    · by_cases h2:nth l j≤hi
      · cases j with
        | zero=>exact absurd ⟨h1,h2,fun h=>absurd h (by omega)⟩ hp
        | succ j=>
          have h3:¬nth l j<nth l (j+1):=fun h=>hp ⟨h1,h2,fun _=>by simpa using h⟩
          simp(disch:=omega)only[go_sem,K.gk,↓reduceIte]
      · simp(disch:=omega)only[go_sem,K.gk,↓reduceIte]
    · simp(disch:=omega)only[go_sem,K.gk,↓reduceIte]
  · simp(disch:=omega)only[go_sem,K.gk,↓reduceIte]
 unfold Hd
 simp(disch:=omega)only[go_sem,K.bM,↓reduceIte,loop]
 cases hf:(List.range l.length).any (O5 l lo hi)with
 | true=>simp(disch:=omega)only[go_sem,↓reduceIte]
 | false=>simp(disch:=omega)only[go_sem,↓reduceIte,aLt]
theorem zv(l:List Int)(n:Int):Hd l 0 (n-1)=lQ l n:=by
 unfold Hd lQ
 rw[OJ]
 refine congrArg (!·) (congrArg _ (funext fun j=>?_))
 unfold O5
 refine congrArg (!·) (decide_eq_decide.2 ⟨fun h=>⟨h.1,by omega,h.2.2⟩,fun h=>⟨h.1,by omega,h.2.2⟩⟩)
structure RY where
 st:Int
 fi:Int
 se:Int
 ti:Int
abbrev RY.e(s:RY):T:= .agg [tI s.st,tI s.fi,tI s.se,tI s.ti]
structure yc where
 area:List Int
 hold:Int
 mis:Int
abbrev yc.e(x:yc):T:= .agg [tL x.area,tI x.hold,tI x.mis]
structure Keys where
 roads:List Int
 keys:List Int
 out:Bool
abbrev Keys.e(k:Keys):T:= .agg [tL k.roads,tL k.keys,.bool k.out]
def K7(l:List Int):Bool:= !l.any fun x=> !decide (x=2)
def oe(l:List Int):Bool:=decide (1≤(l.length:Int)∧(l.length:Int)≤12)&&Hd l 0 127
theorem He(l:List Int)(hl:l.length≤4294967296):aL 0 N.jl [.t (tL l)] []=some (B (oe l),[]):=by
 refine aj K.uH rfl ?_
 have i:=oa l.length 1 12
 have r:=mF l 0 127 hl
 unfold oe
 generalize Hd l 0 127=rr at*
 cases h:decide (1≤(l.length:Int)∧(l.length:Int)≤12)<;>rw[h]at i<;>simp(disch:=omega)only[go_sem,K.jl,↓reduceIte,i,r]
def Mf(k:Keys):Bool:=oe k.roads&&decide (k.keys.length=k.roads.length)&& !(k.keys.any fun x=> !decide (0≤x∧x≤2))&&(!k.out||K7 k.keys)
def yd(s:RY):Bool:=if s.st=0 then decide (s.fi=0∧s.se=0∧s.ti=0)else if s.st=1 then decide (0<s.fi∧s.se=0)
 else if s.st=2∨s.st=3∨s.st=4 then decide (0<s.fi∧0<s.se∧s.fi≠s.se)else false
def JB(x:yc)(s:RY):Bool:= !decide (x.area.length=0)&&Hd x.area 0 63&&decide (1≤x.hold∧x.hold≤100000)&&decide (1≤x.mis∧x.mis≤100000)&&decide (0≤s.ti∧s.ti≤2147483648)&&yd s
theorem O6(x:yc)(hl:x.area.length≤4294967296)(s:RY):aL 0 N.bS [.t x.e,.t s.e] []=some (B (JB x s),[]):=by
 refine aj K.qD rfl ?_
 have r:=mF x.area 0 63 hl
 have i1:=oa x.hold 1 100000
 have i2:=oa x.mis 1 100000
 have i3:=oa s.ti 0 2147483648
 unfold JB
 generalize Hd x.area 0 63=b1 at*
 generalize decide (1≤x.hold∧x.hold≤100000)=b2 at*
 generalize decide (1≤x.mis∧x.mis≤100000)=b3 at*
 generalize decide (0≤s.ti∧s.ti≤2147483648)=b4 at*
 obtain⟨area,hold,mis⟩:=x
 obtain⟨st,fi,se,ti⟩:=s
 simp only at*
 by_cases e:area.length=0
 · simp(disch:=omega)only[go_sem,K.bS,↓reduceIte,e]
 cases b1
 · simp(disch:=omega)only[go_sem,K.bS,↓reduceIte,e,r]
 cases b2
 · simp(disch:=omega)only[go_sem,K.bS,↓reduceIte,e,r,i1]
 cases b3
 · simp(disch:=omega)only[go_sem,K.bS,↓reduceIte,e,r,i1,i2]
 cases b4
 · simp(disch:=omega)only[go_sem,K.bS,↓reduceIte,e,r,i1,i2,i3]
 unfold yd
 simp only
 by_cases s0:st=0
 · subst s0
   by_cases c1:fi=0<;>by_cases c2:se=0<;>by_cases c3:ti=0<;>simp(disch:=omega)only[go_sem,K.bS,↓reduceIte,e,r,i1,i2,i3]
 by_cases s1:st=1
 · subst s1
   by_cases c1:0<fi<;>by_cases c2:se=0<;>simp(disch:=omega)only[go_sem,K.bS,↓reduceIte,e,r,i1,i2,i3,s0]
 by_cases s2:st=2
 · subst s2
   by_cases c1:0<fi<;>by_cases c2:0<se<;>by_cases c3:fi=se<;>simp(disch:=omega)only[go_sem,K.bS,↓reduceIte,e,r,i1,i2,i3,s0,s1]
 by_cases s3:st=3
 · subst s3
   by_cases c1:0<fi<;>by_cases c2:0<se<;>by_cases c3:fi=se<;>simp(disch:=omega)only[go_sem,K.bS,↓reduceIte,e,r,i1,i2,i3,s0,s1,s2]
 by_cases s4:st=4
 · subst s4
   by_cases c1:0<fi<;>by_cases c2:0<se<;>by_cases c3:fi=se<;>simp(disch:=omega)only[go_sem,K.bS,↓reduceIte,e,r,i1,i2,i3,s0,s1,s2,s3]
 · simp(disch:=omega)only[go_sem,K.bS,↓reduceIte,e,r,i1,i2,i3,s0,s1,s2,s3,s4]
end Go.Ev
namespace Go.Ev
open Go
variable [Lib] [bO] [bL] [dL] [dm] [dg] [dn] [eR] [dF]
theorem Hf{m:bq}(h:m.ok)(h1:1≤m.aa.length)(p t:Int):aL 0 N.eU [.t m.e,I p,I t] []=some (.tup [.t (fG m p t).1.e,I (fG m p t).2],[]):=by
 refine aj K.qC rfl ?_
 have np:=h.np
 have v:=lV h
 have i1:=oa p 0 (m.aa.length-1)
 have i2:=oa t 0 2147483648
 have nw:=Jy h h1
 have nl:=oT m.aa.length
 unfold fG
 by_cases c1:p<0∨(m.aa.length:Int)≤p
 · rw[if_pos c1]
   rw[decide_eq_false (by omega)]at i1
   obtain⟨aa,roads⟩:=m
   simp only at*
   simp(disch:=omega)only[go_sem,K.eU,↓reduceIte,v,i1,reduceAdd,reduceSub]
   rfl
 · rw[if_neg c1]
   rw[decide_eq_true (by omega)]at i1
   by_cases c2:inT t
   · rw[if_pos c2]
     rw[decide_eq_true (show 0≤t∧t≤2147483648 from c2)]at i2
     have hb:bnd ((kK m.aa.length).set p.toNat t):=zn (zp _) (by unfold inT at c2;omega) (by unfold inT at c2;omega)
     have lo:=(Mc h t (by unfold inT at c2;omega) (by unfold inT at c2;omega) ((kK m.aa.length).set p.toNat t) (by simp) hb).1
     generalize mT m t none ((kK m.aa.length).set p.toNat t)=c at*
     generalize kK m.aa.length=ne at*
     obtain⟨aa,roads⟩:=m
     simp only at*
     clear hb
     simp(disch:=omega)only[go_sem,K.eU,↓reduceIte,v,i1,i2,nw,lo,reduceAdd,reduceSub]
   · rw[if_neg c2]
     rw[decide_eq_false (show ¬(0≤t∧t≤2147483648)from c2)]at i2
     obtain⟨aa,roads⟩:=m
     simp only at*
     simp(disch:=omega)only[go_sem,K.eU,↓reduceIte,v,i1,i2,reduceAdd,reduceSub]
     rfl
theorem O7(a b:Wh)(ha:a.frm.length≤1000000):aL 0 N.jn [.t a.e,.t b.e] []=some (B (decide (a.time=b.time∧a.frm=b.frm)),[]):=by
 refine aj K.uz rfl ?_
 have s:=kt a.frm b.frm (by omega)
 obtain⟨t1,f1⟩:=a
 obtain⟨t2,f2⟩:=b
 simp only at*
 by_cases c:t1=t2
 · simp(disch:=omega)only[go_sem,K.jn,↓reduceIte,s,c,true_and,reduceAdd,reduceSub]
 · simp(disch:=omega)only[go_sem,K.jn,↓reduceIte,s,c,false_and,decide_false,reduceAdd,reduceSub]
end Go.Ev
namespace Go.Ev.N
def Ql:Nat:=215
def Qm:Nat:=216
def Qn:Nat:=217
def Xa:Nat:=218
def gZ:Nat:=219
def Xb:Nat:=220
def Z7:Nat:=221
def jo:Nat:=222
def jq:Nat:=223
def adn:Nat:=224
def Xc:Nat:=225
def Xd:Nat:=226
def Xe:Nat:=227
def ado:Nat:=228
def Xf:Nat:=229
def kx:Nat:=230
def jr:Nat:=231
def TS:Nat:=232
def Z8:Nat:=233
def TT:Nat:=234
def TU:Nat:=235
def TV:Nat:=236
def Z9:Nat:=237
def TW:Nat:=238
def adp:Nat:=239
def adq:Nat:=240
def cH:Nat:=241
def aaa:Nat:=242
def Xg:Nat:=243
def Qo:Nat:=244
end Go.Ev.N
namespace Go.Ev.N
def K8:Nat:=245
def JC:Nat:=246
def JD:Nat:=247
def Xh:Nat:=248
def RZ:Nat:=249
def Xi:Nat:=250
def K9:Nat:=251
def Qp:Nat:=252
def O8:Nat:=253
def Xj:Nat:=254
def TX:Nat:=255
def aab:Nat:=256
def ky:Nat:=257
def Mg:Nat:=258
def sM:Nat:=259
def bX:Nat:=260
def bk:Nat:=261
def fK:Nat:=262
def cg:Nat:=263
def aH:Nat:=264
def iS:Nat:=265
def tP:Nat:=266
def aW:Nat:=267
def fL:Nat:=268
def aI:Nat:=269
def cmp_isNaN_int:Nat:=270
end Go.Ev.N
namespace Go.Ev.N
def Mh:Nat:=271
def O9:Nat:=272
def JE:Nat:=273
def Ni:Nat:=274
def Qq:Nat:=275
def Pa:Nat:=276
def Xk:Nat:=277
def eG:Nat:=278
def aac:Nat:=279
def aad:Nat:=280
def Qr:Nat:=281
def nL:Nat:=282
def jD:Nat:=283
def Xl:Nat:=284
def Xm:Nat:=285
def gM:Nat:=286
def yY:Nat:=287
def aae:Nat:=288
def i9:Nat:=289
def Xn:Nat:=290
def jJ:Nat:=291
def kz:Nat:=292
def gE:Nat:=293
def Xo:Nat:=294
def Xp:Nat:=295
def TY:Nat:=296
def ye:Nat:=297
def yf:Nat:=298
def R0:Nat:=299
def Ee:Nat:=300
def tE:Nat:=301
def xl:Nat:=302
def AA:Nat:=303
def vM:Nat:=304
def yZ:Nat:=305
def AB:Nat:=306
def yg:Nat:=307
def gF:Nat:=308
end Go.Ev.N
namespace Go.Ev.N
def TZ:Nat:=309
def Pb:Nat:=310
def Qs:Nat:=311
def Qt:Nat:=312
def Pc:Nat:=313
def Xq:Nat:=314
def ajn:Nat:=315
def adr:Nat:=316
def Xr:Nat:=317
def Xs:Nat:=318
def kA:Nat:=319
def Xt:Nat:=320
def ads:Nat:=321
def adt:Nat:=322
def Xu:Nat:=323
def R1:Nat:=324
def adu:Nat:=325
def agw:Nat:=326
def cB:Nat:=327
def T0:Nat:=328
def R2:Nat:=329
def aA:Nat:=330
def aB:Nat:=331
def R3:Nat:=332
def Pd:Nat:=333
end Go.Ev.N
namespace Go.Ev.K
open Go.Ev
def Ch:C:= (.its [u (.bin .lss v9 v8)] [] 0 .skip (.exit 1) (.seq (.blk 2 (q [a 1 v7 v9,g l0,x 6 l0] [] (.reg [f 1 v5,g l0,m v6,a 10 l1 l0,f 4 l0,u (.st l0 (.b false) 1 [])] []))) (.reg [u (.bin .add v9 (.i 1)),x 9 l0] [])))
def Db:C:= .loop true [0,1,2,4,6] K.Ch
def kA:Fn:= { aD:=2,vars:=[0,1,2,4,5,6,8,30,31,32],body:=(q [w 2 (.bx v0 2),w 3 (.al [.nil,.nil] []),x 4 (.i 0)] [] (.seq (.blk 0 (.ite [h 2 v2,u (.ca N.cy 0 [] [.l 0]),u (.un .not l0),m l0] [] 0 (q [u (.bd [.nil,.nil] []),u (.st v3 l0 2 []),x 4 (.i 6)] [] .ret) (.ite [m v1,f 1 v2,g l0,u (.ln l0),u (.bin .sub l0 (.i 1)),u (.ca N.bM 0 [] [.l 4,.i 0,.l 0]),u (.un .not l0),m l0] [] 0 (q [u (.bd [.nil,.nil] []),u (.st v3 l0 2 []),x 4 (.i 4)] [] .ret) .skip))) (q [w 5 (.al [.nil,.nil] []),f 0 v2,g l0,u (.ca N.aA 0 [] [.l 0]),f 1 v2,g l0,u (.ca N.aB 1 [] [.l 0]),u (.bd [.nil,.nil] [(0,1,.l 3),(1,1,.l 0)]),u (.st l7 l0 2 [])] [(0,4),(0,7),(5,1)] (.seq (q [x 7 v1,w 8 (.ln l0),x 9 (.i 0)] [] (.blk 1 K.Db)) (q [h 2 v5,u (.st v3 l0 2 []),x 4 (.i 0)] [] .ret))))),res:=[(3,some (2,true)),(4,none)]}
end Go.Ev.K
namespace Go.Ev
class fM [Lib]:Prop where
 yh:Lib.fs N.kA=some K.kA
namespace K
variable [Lib] [fM]
theorem yh:Lib.fs N.kA=some K.kA:=fM.yh
end K
end Go.Ev
namespace Go.Ev.K
open Go.Ev
def iT:C:= (.seq (.ite [m v5,f 0 v2,g l0,u (.ln l0),u (.bin .lss l3 l0)] [] 0 .skip (.exit 0)) (.seq (.blk 1 (.ite [f 0 v2,g l0,m v5,a 2 l1 l0,h 2 l0,f 0 v3,g l0,m v5,a 2 l1 l0,h 2 l0,u (.eqk (.sc [true,false]) true l5 l0)] [] 0 (q [x 4 (.b false)] [] .ret) .skip)) (.reg [m v5,u (.bin .add l0 (.i 1)),x 5 l0] [])))
def nq:C:= .loop true [0,1,4,6] K.iT
def iU:C:= (.seq (.ite [m v6,f 1 v2,g l0,u (.ln l0),u (.bin .lss l3 l0)] [] 0 .skip (.exit 2)) (.seq (.blk 3 (.ite [f 1 v2,g l0,m v6,a 10 l1 l0,h 10 l0,f 1 v3,g l0,m v6,a 10 l1 l0,h 10 l0,u (.eqk (.sc [true,true,true,true,false,false,true,true,true,true]) true l5 l0)] [] 0 (q [x 4 (.b false)] [] .ret) .skip)) (.reg [m v6,u (.bin .add l0 (.i 1)),x 6 l0] [])))
def ns:C:= .loop true [0,1,4,5] K.iU
def cB:Fn:= { aD:=2,vars:=[0,1,2,3,4,5,6],body:=(q [w 2 (.bx v0 2),w 3 (.bx v1 2),x 4 (.b false)] [] (.seq (.ite [f 0 v2,g l0,u (.ln l0),f 0 v3,g l0,u (.ln l0),u (.bin .neq l3 l0),m l0,y 0 false (.fa v2 1),i 1 false l0,y 2 false (.ln l0),y 3 false (.fa v3 1),i 4 false l0,y 5 false (.ln l0),y 6 false (.bin .neq l3 l0),u (.pk l7 (.b true) l0)] [] 0 (q [x 4 (.b false)] [] .ret) .skip) (.seq (q [x 5 (.i 0)] [] (.blk 0 K.nq)) (.seq (q [x 6 (.i 0)] [] (.blk 2 K.ns)) (q [x 4 (.b true)] [] .ret))))),res:=[(4,none)]}
def aA:Fn:= { aD:=1,vars:=[0,2],body:=(q [w 1 (.mv (.c (.nil)))] [] (.itk [m v0,u (.eqk (.sl) false l0 (.c (.nil)))] [] 0 (q [w 1 (.nw 2)] [] .ret) .skip (q [u (.bsr [] 2),m v0,u (.app l1 l0 false 2),x 1 l0] [] .ret))),res:=[(1,none)]}
def aB:Fn:= { aD:=1,vars:=[0,2],body:=(q [w 1 (.mv (.c (.nil)))] [] (.itk [m v0,u (.eqk (.sl) false l0 (.c (.nil)))] [] 0 (q [w 1 (.nw 10)] [] .ret) .skip (q [u (.bsr [] 10),m v0,u (.app l1 l0 false 10),x 1 l0] [] .ret))),res:=[(1,none)]}
end Go.Ev.K
namespace Go.Ev
class fp [Lib]:Prop where
 lz:Lib.fs N.cB=some K.cB
 ee:Lib.fs N.aA=some K.aA
 ff:Lib.fs N.aB=some K.aB
namespace K
variable [Lib] [fp]
theorem lz:Lib.fs N.cB=some K.cB:=fp.lz
theorem ee:Lib.fs N.aA=some K.aA:=fp.ee
theorem ff:Lib.fs N.aB=some K.aB:=fp.ff
end K
end Go.Ev
namespace Go.Ev
open Go
variable [Lib] [bO] [bL] [dL] [dm] [dg] [dn] [eR] [dF] [fM] [fp]
end Go.Ev
namespace Go.Ev
open Go
variable [Lib] [bO] [bL]
@[go_sem] theorem Xv (l : List Place) : nH 2 (l.map Place.e) = true := by cases l <;> rfl
@[go_sem] theorem aaf (l : List Road) : nH 10 (l.map Road.e) = true := by cases l <;> rfl
@[go_sem] theorem aag (H : aq) (d : aT) : Q5 H 0 1 false (some d.obj) = some (.t (tL d.L), H) := by simp only [aT.obj, go_sem]
def aT.fN(d:aT):Nat→List Place×aT
 | 0=>([],d)
 | k+1=>if k=0 then((d.fN k).1++[⟨-10*((d.fN k).2.next 4).1,true⟩],((d.fN k).2.next 4).2)
   else((d.fN k).1++[⟨-10*((d.fN k).2.next 4).1,(((d.fN k).2.next 4).2.one 6).1⟩],(((d.fN k).2.next 4).2.one 6).2)
def aT.Mi(d:aT)(i:Int):Road×aT:=
 (⟨i-1-(d.next (min i 2)).1,i,1+((d.next (min i 2)).2.of [11,59,119,4]).1,1+(((d.next (min i 2)).2.of [11,59,119,4]).2.of [9,3,19]).1,true,false,1,1,0,0⟩,
   (((d.next (min i 2)).2.of [11,59,119,4]).2.of [9,3,19]).2)
def aT.mG(d:aT):Nat→List Road×aT
 | 0=>([],d)
 | k+1=>((d.mG k).1++[((d.mG k).2.Mi (k+1)).1],((d.mG k).2.Mi (k+1)).2)
def aT.sN(d:aT)(n:Int):Road×aT:=
 let a:=d.next n
 let b:=a.2.next n
 let l:=b.2.of [11,59,199]
 let r:=l.2.of [9,3]
 let w:=r.2.next 5
 let c:=w.2.one 6
 (⟨a.1,b.1,1+l.1,1+r.1,decide (0<w.1),c.1,1,1,0,0⟩,c.2)
def aT.more(n:Int)(l:List Road)(d:aT):Nat→List Road×aT
 | 0=>(l,d)
 | k+1=>if l.length<10 then aT.more n (if(d.sN n).1.frm=(d.sN n).1.to then l else l++[(d.sN n).1]) (d.sN n).2 k else(l,d)
def aT.xm(d:aT):Nat:=if d.L.length=0 then 4 else(2+(d.next 6).1).toNat
def aT.Pe(d:aT):List Place×aT:=(d.next 6).2.fN d.xm
def aT.Ff(d:aT):List Road×aT:=d.Pe.2.mG (d.xm-1)
def aT.R4(d:aT):List Road×aT:=aT.more d.xm d.Ff.1 (d.Ff.2.next 4).2 (d.Ff.2.next 4).1.toNat
def aT.ox(d:aT):bq×aT:=(⟨d.Pe.1,d.R4.1⟩,d.R4.2)
theorem aT.mH{d:aT}(h:d.dY):∀n,(d.fN n).2.dY
 | 0=>h
 | n+1=>by
   unfold aT.fN
   split
   · exact aT.dj (aT.mH h n) 4
   · exact aT.x7 (aT.dj (aT.mH h n) 4) 6
theorem aT.sO(d:aT):∀n,(d.fN n).1.length=n
 | 0=>rfl
 | n+1=>by
   unfold aT.fN
   split<;>simp[d.sO n]
theorem aT.JF{d:aT}(h:d.dY)(i:Int):(d.Mi i).2.dY:=aT.kg (aT.kg (aT.dj h _) _) _
theorem aT.qe{d:aT}(h:d.dY):∀n,(d.mG n).2.dY
 | 0=>h
 | n+1=>aT.JF (aT.qe h n) _
theorem aT.vD(d:aT):∀n,(d.mG n).1.length=n
 | 0=>rfl
 | n+1=>by simp[aT.mG,d.vD n]
theorem aT.Ci{d:aT}(h:d.dY)(n:Int):(d.sN n).2.dY:=by
 unfold aT.sN;simp only
 exact aT.x7 (aT.dj (aT.kg (aT.kg (aT.dj (aT.dj h _) _) _) _) _) _
theorem aT.Ef(n:Int):∀(k:Nat) (l:List Road) {d:aT},d.dY→(aT.more n l d k).2.dY
 | 0,l,d,h=>h
 | k+1,l,d,h=>by
   unfold aT.more
   split
   · exact aT.Ef n k _ (aT.Ci h n)
   · exact h
theorem aT.Mj{d:aT}(h:d.dY):d.ox.2.dY:=
 aT.Ef _ _ _ (aT.dj (aT.qe (aT.mH (aT.dj h _) _) _) _)
abbrev Fg:List D:=[I 0,I 0,I 12,I 10,B true,B false,I 1,I 1,I 0,I 0]
theorem Mk(d:aT)(hd:d.dY)(n:Nat)(hn:n≤8)(a b c e f:D):
 exS aL K.rk ⟨[.bp 0 0,.bp 1 0,.bp 2 0,I n,I 0,a,b,c,e,f],[d.obj,.box [.nil,.nil],.box [.ref 3 0 0,.ref 4 0 0],.arr 2 false 0 [],.arr 10 false 0 []]⟩=
 some (.exit 0,⟨[.bp 0 0,.bp 1 0,.bp 2 0,I n,I n,.und,.und,.und,.und,.und],[(d.fN n).2.obj,.box [.nil,.nil],.box [.ref 3 0 (d.fN n).1.length,.ref 4 0 0],.arr 2 false 0 (((d.fN n).1.map Place.e).map .t),.arr 10 false 0 []]⟩):=by
 refine bH (fun j=>⟨[.bp 0 0,.bp 1 0,.bp 2 0,I n,I j,.und,.und,.und,.und,.und],[(d.fN j).2.obj,.box [.nil,.nil],.box [.ref 3 0 (d.fN j).1.length,.ref 4 0 0],.arr 2 false 0 (((d.fN j).1.map Place.e).map .t),.arr 10 false 0 []]⟩) n rfl ?_ ?_ (by simp)
 · intro j hj
   have ln:=d.sO j
   have lt:=aT.mH hd j
   simp only[aT.fN]
   generalize d.fN j=s at*
   obtain⟨l,d1⟩:=s
   simp only at ln lt ⊢
   have h1:=o6 d1 4 (by omega) lt
   have b1:=d1.n5 4
   have b2:=d1.n9 (n:=4) (by omega)
   have l1:=aT.dj lt 4
   generalize d1.next 4=a1 at*
   obtain⟨x,d2⟩:=a1
   simp only at h1 b1 b2 l1 ⊢
   by_cases j0:j=0
   · subst j0
     simp(disch:=omega)only[go_sem,K.kc,h1,↓reduceIte,reduceAdd,reduceSub]
   · have h2:=KX d2 6 (by omega) (by omega) l1
     simp(disch:=omega)only[go_sem,K.kc,h1,h2,j0,↓reduceIte,reduceAdd,reduceSub]
 · simp(disch:=omega)only[go_sem,K.kc,↓reduceIte]
theorem Ml(d:aT)(hd:d.dY)(n:Nat)(hn:n≤8)(h1:1≤n)(ps:List Place)(a b c e:D):
 exS aL K.rm ⟨[.bp 0 0,.bp 1 0,.bp 2 0,I n,a,.bp 5 0,I 1,b,c,e],[d.obj,.box [.nil,.nil],.box [.ref 3 0 ps.length,.ref 4 0 0],.arr 2 false 0 ((ps.map Place.e).map .t),.arr 10 false 0 [],.box Fg]⟩=
 some (.exit 2,⟨[.bp 0 0,.bp 1 0,.bp 2 0,I n,.und,.bp 5 0,I n,.und,.und,.und],[(d.mG (n-1)).2.obj,.box [.nil,.nil],.box [.ref 3 0 ps.length,.ref 4 0 (d.mG (n-1)).1.length],.arr 2 false 0 ((ps.map Place.e).map .t),.arr 10 false 0 (((d.mG (n-1)).1.map Road.e).map .t),.box Fg]⟩):=by
 refine bH (fun j=>⟨[.bp 0 0,.bp 1 0,.bp 2 0,I n,.und,.bp 5 0,I (j+1),.und,.und,.und],[(d.mG j).2.obj,.box [.nil,.nil],.box [.ref 3 0 ps.length,.ref 4 0 (d.mG j).1.length],.arr 2 false 0 ((ps.map Place.e).map .t),.arr 10 false 0 (((d.mG j).1.map Road.e).map .t),.box Fg]⟩) (n-1) rfl ?_ ?_ (by simp)
 · intro j hj
   have ln:=d.vD j
   have lt:=aT.qe hd j
   simp only[aT.mG]
   generalize d.mG j=s at*
   obtain⟨l,d1⟩:=s
   simp only[aT.Mi]at ln lt ⊢
   have h1:=o6 d1 (min ((j:Int)+1) 2) (by omega) lt
   have b1:=d1.n5 (min ((j:Int)+1) 2)
   have b2:=d1.n9 (n:=min ((j:Int)+1) 2) (by omega)
   have l1:=aT.dj lt (min ((j:Int)+1) 2)
   generalize d1.next (min ((j:Int)+1) 2)=a1 at*
   obtain⟨x,d2⟩:=a1
   simp only at h1 b1 b2 l1 ⊢
   have h2:=GS d2 [11,59,119,4] (by simp) (by simp) l1
   have m2:=d2.o7 (l:=[11,59,119,4]) (by simp)
   have l2:=aT.kg l1 [11,59,119,4]
   generalize d2.of [11,59,119,4]=a2 at*
   obtain⟨y,d3⟩:=a2
   simp only[tL,List.map_cons,List.map_nil]at h2 m2 l2 ⊢
   have h3:=GS d3 [9,3,19] (by simp) (by simp) l2
   have m3:=d3.o7 (l:=[9,3,19]) (by simp)
   generalize d3.of [9,3,19]=a3 at*
   obtain⟨z,d4⟩:=a3
   simp only[tL,List.map_cons,List.map_nil,List.mem_cons,List.not_mem_nil,or_false]at h3 m2 m3 ⊢
   simp(disch:=omega)only[go_sem,K.mz,h1,h2,h3,↓reduceIte,reduceAdd,reduceSub]
 · simp(disch:=omega)only[go_sem,K.mz,↓reduceIte]
   rw[show((n-1:Nat):Int)+1=n by omega]
abbrev Hg(d:aT)(ps:List Place)(l:List Road):aq:=[d.obj,.box [.nil,.nil],.box [.ref 3 0 ps.length,.ref 4 0 l.length],.arr 2 false 0 ((ps.map Place.e).map .t),.arr 10 false 0 ((l.map Road.e).map .t),.box Fg]
theorem Mm(d:aT)(hd:d.dY)(n:Int)(hn:1≤n)(hn2:n≤8)(ps:List Place)(l:List Road)(hl:l.length<10)(k:Nat)(hk:k≤10):
 kV true [4,6,7,9] 6 (exS aL K.eE ⟨[.bp 0 0,.bp 1 0,.bp 2 0,I n,.und,.bp 5 0,.und,.und,I (k+1),.und],Hg d ps l⟩)=
 some ⟨[.bp 0 0,.bp 1 0,.bp 2 0,I n,.und,.bp 5 0,.und,.und,I k,.und],Hg (d.sN n).2 ps (if(d.sN n).1.frm=(d.sN n).1.to then l else l++[(d.sN n).1])⟩:=by
 unfold aT.sN Hg
 simp only
 have h1:=o6 d n (by omega) hd
 have l1:=aT.dj hd n
 generalize d.next n=a1 at*
 obtain⟨x1,d1⟩:=a1
 simp only at h1 l1 ⊢
 have h2:=o6 d1 n (by omega) l1
 have l2:=aT.dj l1 n
 generalize d1.next n=a2 at*
 obtain⟨x2,d2⟩:=a2
 simp only at h2 l2 ⊢
 have h3:=GS d2 [11,59,199] (by simp) (by simp) l2
 have m3:=d2.o7 (l:=[11,59,199]) (by simp)
 have l3:=aT.kg l2 [11,59,199]
 generalize d2.of [11,59,199]=a3 at*
 obtain⟨x3,d3⟩:=a3
 simp only[tL,List.map_cons,List.map_nil]at h3 m3 l3 ⊢
 have h4:=GS d3 [9,3] (by simp) (by simp) l3
 have m4:=d3.o7 (l:=[9,3]) (by simp)
 have l4:=aT.kg l3 [9,3]
 generalize d3.of [9,3]=a4 at*
 obtain⟨x4,d4⟩:=a4
 simp only[tL,List.map_cons,List.map_nil]at h4 m4 l4 ⊢
 have h5:=o6 d4 5 (by omega) l4
 have l5:=aT.dj l4 5
 generalize d4.next 5=a5 at*
 obtain⟨x5,d5⟩:=a5
 simp only at h5 l5 ⊢
 have h6:=KX d5 6 (by omega) (by omega) l5
 generalize d5.one 6=a6 at*
 obtain⟨x6,d6⟩:=a6
 simp only[List.mem_cons,List.not_mem_nil,or_false]at h6 m3 m4 ⊢
 by_cases e:x1=x2
 · simp(disch:=omega)only[go_sem,K.eE,h1,h2,h3,h4,h5,h6,e,↓reduceIte,reduceAdd,reduceSub]
 · simp(disch:=omega)only[go_sem,K.eE,h1,h2,h3,h4,h5,h6,e,↓reduceIte,reduceAdd,reduceSub]
theorem Eg(n:Int)(hn:1≤n)(hn2:n≤8)(ps:List Place):∀(k:Nat) (d:aT) (l:List Road),d.dY→l.length≤10→k≤10→
 ∃z:Int,oX true [4,6,7,9] (exS aL K.eE) ⟨[.bp 0 0,.bp 1 0,.bp 2 0,I n,.und,.bp 5 0,.und,.und,I k,.und],Hg d ps l⟩=
 some (.exit 4,⟨[.bp 0 0,.bp 1 0,.bp 2 0,I n,.und,.bp 5 0,.und,.und,I z,.und],Hg (aT.more n l d k).2 ps (aT.more n l d k).1⟩)
 | 0,d,l,hd,hl,hk=>by
   refine⟨0,fW ?_ (by simp)⟩
   simp(disch:=omega)only[go_sem,K.eE,aT.more,↓reduceIte,reduceAdd,reduceSub]
 | k+1,d,l,hd,hl,hk=>by
   by_cases h:l.length<10
   · have hr:=Mm d hd n hn hn2 ps l h k (by omega)
     obtain⟨z,hz⟩:=Eg n hn hn2 ps k (d.sN n).2 (if(d.sN n).1.frm=(d.sN n).1.to then l else l++[(d.sN n).1]) (aT.Ci hd n) (by split<;>(try rw[aLv,List.length_singleton])<;>omega) (by omega)
     refine⟨z,lN hr ?_⟩
     rw[hz]
     simp only[aT.more,if_pos h]
   · refine⟨(k:Int)+1,fW ?_ (by simp)⟩
     simp(disch:=omega)only[go_sem,K.eE,aT.more,↓reduceIte,reduceAdd,reduceSub]
theorem aT.La(n:Int):∀(k:Nat) (l:List Road) (d:aT),l.length≤10→(aT.more n l d k).1.length≤10
 | 0,l,d,h=>h
 | k+1,l,d,h=>by
   unfold aT.more
   split
   · exact aT.La n k _ _ (by split<;>(try rw[aLv,List.length_singleton])<;>omega)
   · exact h
theorem aT.Bv(d:aT):2≤d.xm∧d.xm≤7:=by
 unfold aT.xm
 have:=d.n5 6
 have:=d.n9 (n:=6) (by omega)
 split<;>omega
theorem Xw(d:aT)(hd:d.dY):aL 0 N.df [.bp 0 0] [d.obj]=some (.t d.ox.1.e,[d.ox.2.obj]):=by
 refine aj K.nW rfl ?_
 have nb:=d.Bv
 unfold aT.ox
 have h0:=o6 d 6 (by omega) hd
 have l0:=aT.dj hd 6
 have b1:=d.n5 6
 have b2:=d.n9 (n:=6) (by omega)
 have hL:=d.Tn 6
 have hN:(d.xm:Int)=if d.L.length=0 then 4 else 2+(d.next 6).1:=by unfold aT.xm;split<;>omega
 have e1:d.R4=aT.more d.xm d.Ff.1 (d.Ff.2.next 4).2 (d.Ff.2.next 4).1.toNat:=rfl
 have e2:d.Ff=d.Pe.2.mG (d.xm-1):=rfl
 have e3:d.Pe=(d.next 6).2.fN d.xm:=rfl
 generalize d.R4=X at*
 generalize d.Ff=R at*
 generalize d.Pe=P at*
 generalize d.xm=n at*
 generalize d.next 6=a at*
 obtain⟨x,d1⟩:=a
 simp only at h0 l0 b1 b2 hL hN e3 ⊢
 have q1:=Mk d1 l0 n (by omega)
 have lP:=aT.mH l0 n
 have nP:=d1.sO n
 rw[← e3]at q1 lP nP
 obtain⟨ps,d2⟩:=P
 simp only at q1 lP nP e2 ⊢
 have q2:=Ml d2 lP n (by omega) (by omega) ps
 have lR:=aT.qe lP (n-1)
 have nR:=d2.vD (n-1)
 rw[← e2]at q2 lR nR
 obtain⟨rs,d3⟩:=R
 simp only at q2 lR nR e1 ⊢
 have h4:=o6 d3 4 (by omega) lR
 have l4:=aT.dj lR 4
 have b3:=d3.n5 4
 have b4:=d3.n9 (n:=4) (by omega)
 generalize d3.next 4=c at*
 obtain⟨y,d4⟩:=c
 simp only at h4 l4 b3 b4 e1 ⊢
 obtain⟨z,q3⟩:=Eg n (by omega) (by omega) ps y.toNat d4 rs l4 (by omega) (by omega)
 rw[← e1]at q3
 have q3:=Ow (vs:=[.bp 0 0,.bp 1 0,.bp 2 0,I n,.und,.bp 5 0,I n,.und,I y.toNat,.und]) q3
 have ey:(y.toNat:Int)=y:=by omega
 rw[ey]at q3
 obtain⟨xs,d5⟩:=X
 have fin:∀k:Int,(exS aL K.rn ⟨[.bp 0 0,.bp 1 0,.bp 2 0,I n,.und,.bp 5 0,I n,.und,I y,.und],Hg d4 ps rs⟩)=
  some (.exit 4,⟨[.bp 0 0,.bp 1 0,.bp 2 0,I n,.und,.bp 5 0,.und,.und,I z,.und],Hg d5 ps xs⟩):=fun _=>q3
 clear q3
 have q3:=fin 0
 clear fin
 simp only[Hg]at q3
 by_cases c0:d.L.length=0
 · rw[if_pos c0]at hN
   obtain rfl:n=4:=by omega
   have e4:((4:Nat):Int)=4:=rfl
   simp only[e4]at q1 q2 q3
   simp(disch:=omega)only[go_sem,K.df,↓reduceIte,h0,c0,q1,q2,q3,h4,hL,reduceAdd,reduceSub]
 · rw[if_neg c0]at hN
   simp(disch:=omega)only[go_sem,K.df,↓reduceIte,h0,c0,q1,q2,q3,h4,hL,hN.symm,reduceAdd,reduceSub]
theorem aT.R5(d:aT){n:Nat}{i:Int}(h1:1≤i)(h2:i<n):(d.Mi i).1.ok n:=by
 have b1:=d.n5 (min i 2)
 have b2:=d.n9 (n:=min i 2) (by omega)
 have m2:=(d.next (min i 2)).2.o7 (l:=[11,59,119,4]) (by simp)
 have m3:=((d.next (min i 2)).2.of [11,59,119,4]).2.o7 (l:=[9,3,19]) (by simp)
 simp only[List.mem_cons,List.not_mem_nil,or_false]at m2 m3
 unfold aT.Mi
 constructor<;>(simp only;omega)
theorem aT.Hh(d:aT){n:Nat}:∀k,k+1≤n→∀r∈(d.mG k).1,r.ok n
 | 0,_,r,hr=>by simp[aT.mG]at hr
 | k+1,h,r,hr=>by
   simp only[aT.mG,List.mem_append,List.mem_singleton]at hr
   rcases hr with hr | rfl
   · exact d.Hh k (by omega) r hr
   · exact aT.R5 _ (by omega) (by omega)
theorem aT.R6(d:aT){n:Nat}(hn:1≤n)(hne:(d.sN n).1.frm≠(d.sN n).1.to):(d.sN n).1.ok n:=by
 unfold aT.sN at hne ⊢
 simp only at hne ⊢
 have b1:=d.n5 n
 have b2:=d.n9 (n:=(n:Int)) (by omega)
 generalize d.next n=a1 at*
 obtain⟨x1,d1⟩:=a1
 simp only at*
 have c1:=d1.n5 n
 have c2:=d1.n9 (n:=(n:Int)) (by omega)
 generalize d1.next n=a2 at*
 obtain⟨x2,d2⟩:=a2
 simp only at*
 have m3:=d2.o7 (l:=[11,59,199]) (by simp)
 generalize d2.of [11,59,199]=a3 at*
 obtain⟨x3,d3⟩:=a3
 simp only at*
 have m4:=d3.o7 (l:=[9,3]) (by simp)
 generalize d3.of [9,3]=a4 at*
 obtain⟨x4,d4⟩:=a4
 simp only[List.mem_cons,List.not_mem_nil,or_false]at m3 m4 ⊢
 constructor<;>(simp only;omega)
theorem aT.Pf{n:Nat}(hn:1≤n):∀(k:Nat) (l:List Road) (d:aT),(∀r∈l,r.ok n)→∀r∈(aT.more n l d k).1,r.ok n
 | 0,l,d,h=>h
 | k+1,l,d,h=>by
   unfold aT.more
   split
   · refine aT.Pf hn k _ _ ?_
     split
     · exact h
     · rename_i hne
       intro r hr
       rcases List.mem_append.1 hr with hr | hr
       · exact h r hr
       · rw[List.mem_singleton.1 hr];exact d.R6 hn hne
   · exact h
theorem aT.Hi(n:Int):∀(k:Nat) (l:List Road) (d:aT),l.length≤(aT.more n l d k).1.length
 | 0,l,d=>aLs _
 | k+1,l,d=>by
   unfold aT.more
   split
   · refine Nat.le_trans ?_ (aT.Hi n k _ _)
     split<;>(try rw[aLv])<;>omega
   · exact aLs _
theorem aT.Hj(d:aT):∀k,∀p∈(d.fN k).1, -30≤p.h∧p.h≤0
 | 0,p,hp=>by simp[aT.fN]at hp
 | k+1,p,hp=>by
   have b1:=(d.fN k).2.n5 4
   have b2:=(d.fN k).2.n9 (n:=4) (by omega)
   unfold aT.fN at hp
   split at hp
   all_goals
    simp only[List.mem_append,List.mem_singleton]at hp
    rcases hp with hp | rfl
    · exact d.Hj k p hp
    · simp only;omega
theorem aT.Cj(d:aT):d.ox.1.aa.length=d.xm:=aT.sO _ _
theorem aT.Eh(d:aT):d.xm-1≤d.ox.1.roads.length∧d.ox.1.roads.length≤10:=by
 have nb:=d.Bv
 have e:d.Ff.1.length=d.xm-1:=aT.vD _ _
 constructor
 · rw[← e];exact aT.Hi _ _ _ _
 · exact aT.La _ _ _ _ (by omega)
theorem aT.Pg(d:aT):d.ox.1.ok:=by
 have nb:=d.Bv
 have h1:=d.Cj
 have h2:=d.Eh
 refine⟨by omega,by omega,fun p hp=>?_,?_⟩
 · have:=aT.Hj _ _ p hp;omega
 · rw[h1]
   exact aT.Pf (by omega) _ _ _ (aT.Hh _ _ (by omega))
@[go_sem] theorem adv (l : List Spn) : nH 2 (l.map Spn.e) = true := by cases l <;> rfl
@[go_sem] theorem ajo (l : List Spn) (k : Nat) (a b : Int) : (List.map D.t (List.map Spn.e l)).set k (D.t (T.agg [tI a, tI b])) = List.map D.t (List.map Spn.e (l.set k ⟨a, b⟩)) := by
 rw[List.map_set,List.map_set]
@[go_sem] theorem akT (H : aq) (sz : Nat) (a b c d e f : T) : D5 H sz [.t a, .t b, .t c, .t d, .t e, .t f] = if bV sz [a, b, c, d, e, f] = true then some (.t (.sl [a, b, c, d, e, f]), H) else none := ud H sz [a, b, c, d, e, f]
@[go_sem] theorem akU (H : aq) (sz : Nat) (a b c d e f g : T) : D5 H sz [.t a, .t b, .t c, .t d, .t e, .t f, .t g] = if bV sz [a, b, c, d, e, f, g] = true then some (.t (.sl [a, b, c, d, e, f, g]), H) else none := ud H sz [a, b, c, d, e, f, g]
@[go_sem] theorem akV (H : aq) (sz : Nat) (a b c d e f g h : T) : D5 H sz [.t a, .t b, .t c, .t d, .t e, .t f, .t g, .t h] = if bV sz [a, b, c, d, e, f, g, h] = true then some (.t (.sl [a, b, c, d, e, f, g, h]), H) else none := ud H sz [a, b, c, d, e, f, g, h]
@[go_sem] theorem adw {α β γ : Type} {l : List α} {g : α → β} {f : β → γ} {x : γ} {j : Nat} (h : j = l.length) : (List.map f (List.map g l) ++ [x])[j]? = some x := by
 rw[aLh (by simp;omega)];simp[h]
@[go_sem] theorem agx {α β γ : Type} {l : List α} {g : α → β} {f : β → γ} {x y : γ} {j : Nat} (h : j = l.length) : (List.map f (List.map g l) ++ [x]).set j y = List.map f (List.map g l) ++ [y] := by
 rw[List.set_append_right _ _ (by simp;omega)];simp[h]
def aT.Dc(d:aT):Spn×aT:=
 let a:=d.of [0,1000,5000,20000, -5000, -20000,4999,100]
 let b:=a.2.of [0,1,1000,6000]
 let c:=b.2.of [0,1,500]
 let w:=c.2.one 9
 (if w.1=true then⟨-1125899906842624,1125899906842624⟩else⟨a.1-b.1,a.1+c.1⟩,w.2)
def aT.lX(d:aT):Nat→List Spn×aT
 | 0=>([],d)
 | k+1=>((d.lX k).1++[((d.lX k).2.Dc).1],((d.lX k).2.Dc).2)
def aT.R7(d:aT)(m:bq):List Spn×aT:=d.lX m.roads.length
theorem aT.JG{d:aT}(h:d.dY):d.Dc.2.dY:=by
 unfold aT.Dc;simp only
 exact aT.x7 (aT.kg (aT.kg (aT.kg h [0,1000,5000,20000, -5000, -20000,4999,100]) [0,1,1000,6000]) [0,1,500]) 9
theorem aT.uI{d:aT}(h:d.dY):∀n,(d.lX n).2.dY
 | 0=>h
 | n+1=>by simp only[aT.lX];exact aT.JG (aT.uI h n)
theorem aT.zw(d:aT):∀n,(d.lX n).1.length=n
 | 0=>rfl
 | n+1=>by simp[aT.lX,d.zw n]
theorem Mn(d:aT):d.Dc.1.ok:=by
 unfold aT.Dc;simp only
 have m1:=d.o7 (l:=[0,1000,5000,20000, -5000, -20000,4999,100]) (by simp)
 generalize d.of [0,1000,5000,20000, -5000, -20000,4999,100]=a at*
 obtain⟨x,d1⟩:=a
 have m2:=d1.o7 (l:=[0,1,1000,6000]) (by simp)
 simp only
 generalize d1.of [0,1,1000,6000]=b at*
 obtain⟨y,d2⟩:=b
 have m3:=d2.o7 (l:=[0,1,500]) (by simp)
 simp only
 generalize d2.of [0,1,500]=c at*
 obtain⟨z,d3⟩:=c
 simp only[List.mem_cons,List.not_mem_nil,or_false]at m1 m2 m3 ⊢
 unfold Spn.ok
 split<;>(simp only;omega)
theorem aT.Ck(d:aT):∀n,∀x∈(d.lX n).1,x.ok
 | 0,x,hx=>by simp[aT.lX]at hx
 | n+1,x,hx=>by
   simp only[aT.lX,List.mem_append,List.mem_singleton]at hx
   rcases hx with hx | rfl
   · exact d.Ck n x hx
   · exact Mn _
theorem JH(d:aT)(hd:d.dY)(m:bq)(hm:m.roads.length≤1000)(j:Nat)(hj:j<m.roads.length)(l:List Spn)(hl:l.length=j):
 kV true [1,3,6] 3 (exS aL K.gU ⟨[.bp 0 0,.und,.bp 1 0,.und,.ref 2 0 l.length,I j,.und],[d.obj,.box [.t (.sl (m.aa.map Place.e)),.t (.sl (m.roads.map Road.e))],.arr 2 false 0 ((l.map Spn.e).map .t)]⟩)=
 some ⟨[.bp 0 0,.und,.bp 1 0,.und,.ref 2 0 (l++[d.Dc.1]).length,I (j+1),.und],[d.Dc.2.obj,.box [.t (.sl (m.aa.map Place.e)),.t (.sl (m.roads.map Road.e))],.arr 2 false 0 (((l++[d.Dc.1]).map Spn.e).map .t)]⟩:=by
 unfold aT.Dc;simp only
 have h1:=GS d [0,1000,5000,20000, -5000, -20000,4999,100] (by simp) (by simp) hd
 have l1:=aT.kg hd [0,1000,5000,20000, -5000, -20000,4999,100]
 have m1:=d.o7 (l:=[0,1000,5000,20000, -5000, -20000,4999,100]) (by simp)
 generalize d.of [0,1000,5000,20000, -5000, -20000,4999,100]=a at*
 obtain⟨x,d1⟩:=a
 simp only[tL,List.map_cons,List.map_nil]at h1 l1 ⊢
 have h2:=GS d1 [0,1,1000,6000] (by simp) (by simp) l1
 have l2:=aT.kg l1 [0,1,1000,6000]
 have m2:=d1.o7 (l:=[0,1,1000,6000]) (by simp)
 generalize d1.of [0,1,1000,6000]=b at*
 obtain⟨y,d2⟩:=b
 simp only[tL,List.map_cons,List.map_nil]at h2 l2 ⊢
 have h3:=GS d2 [0,1,500] (by simp) (by simp) l2
 have l3:=aT.kg l2 [0,1,500]
 have m3:=d2.o7 (l:=[0,1,500]) (by simp)
 generalize d2.of [0,1,500]=c at*
 obtain⟨z,d3⟩:=c
 simp only[tL,List.map_cons,List.map_nil]at h3 l3 ⊢
 have h4:=KX d3 9 (by omega) (by omega) l3
 generalize d3.one 9=e at*
 obtain⟨w,d4⟩:=e
 simp only[List.mem_cons,List.not_mem_nil,or_false]at m1 m2 m3 h4 ⊢
 have st:(l++[(⟨x-y,x+z⟩:Spn)]).set j ⟨-1125899906842624,1125899906842624⟩=l++[⟨-1125899906842624,1125899906842624⟩]:=by
  rw[List.set_append_right _ _ (by omega),hl,Nat.sub_self];rfl
 cases w with
 | true=>
   simp(disch:=omega)only[go_sem,K.gU,↓reduceIte,h1,h2,h3,h4,reduceAdd,reduceSub]
 | false=>
   simp(disch:=omega)only[go_sem,K.gU,↓reduceIte,h1,h2,h3,h4,reduceAdd,reduceSub]
theorem Ph(d:aT)(hd:d.dY)(m:bq)(hm:m.roads.length≤1000):aL 0 N.cX [.bp 0 0,.t m.e] [d.obj]=some (.t (tS (d.R7 m).1),[(d.R7 m).2.obj]):=by
 refine aj K.m8 rfl ?_
 unfold aT.R7
 have ln:=d.zw
 have loop:∀a b c:D,exS aL K.p6 ⟨[.bp 0 0,a,.bp 1 0,b,.ref 2 0 0,I 0,c],[d.obj,.box [.t (.sl (m.aa.map Place.e)),.t (.sl (m.roads.map Road.e))],.arr 2 false 0 []]⟩=
  some (.exit 0,⟨[.bp 0 0,.und,.bp 1 0,.und,.ref 2 0 (d.lX m.roads.length).1.length,I m.roads.length,.und],[(d.lX m.roads.length).2.obj,.box [.t (.sl (m.aa.map Place.e)),.t (.sl (m.roads.map Road.e))],.arr 2 false 0 (((d.lX m.roads.length).1.map Spn.e).map .t)]⟩):=by
  intro a b c
  refine bH (fun j=>⟨[.bp 0 0,.und,.bp 1 0,.und,.ref 2 0 (d.lX j).1.length,I j,.und],[(d.lX j).2.obj,.box [.t (.sl (m.aa.map Place.e)),.t (.sl (m.roads.map Road.e))],.arr 2 false 0 (((d.lX j).1.map Spn.e).map .t)]⟩) m.roads.length rfl ?_ ?_ (by simp)
  · intro j hj
    exact JH (d.lX j).2 (aT.uI hd j) m hm j hj (d.lX j).1 (ln j)
  · simp(disch:=omega)only[go_sem,K.gU,↓reduceIte]
 have ln:=ln m.roads.length
 generalize d.lX m.roads.length=r at*
 obtain⟨l,d1⟩:=r
 simp only at ln loop ⊢
 simp(disch:=omega)only[go_sem,K.cX,↓reduceIte,loop]
theorem adx{gc:Bool}{dead:List Nat}{c:C}{vs:List D}{H:aq}(P:Nat→St→Prop)(n:Nat)(Q:Ex×St→Prop)(h0:P 0 ⟨mh dead vs,H⟩)
 (hs:∀j st,j<n→P j st→(∃st',kV gc dead st.H.length (exS aL c st)=some st'∧P (j+1) st')∨∃q,exS aL c st=some q∧q.1≠ .normal∧Q q)
 (he:∀st,P n st→∃q,exS aL c st=some q∧q.1≠ .normal∧Q q):∃q,exS aL (.loop gc dead c) ⟨vs,H⟩=some q∧Q q:=by
 have key:∀(k j:Nat) (st:St),j+k=n→P j st→∃q,oX gc dead (exS aL c) st=some q∧Q q:=by
  intro k
  induction k with
  | zero=>
    intro j st hj hp
    obtain⟨q,h1,h2,h3⟩:=he st (by rw[← hj];exact hp)
    exact⟨q,fW h1 h2,h3⟩
  | succ k ih=>
    intro j st hj hp
    rcases hs j st (by omega) hp with⟨st',h1,h2⟩ | ⟨q,h1,h2,h3⟩
    · obtain⟨q,h3,h4⟩:=ih (j+1) st' (by omega) h2
      exact⟨q,lN h1 h3,h4⟩
    · exact⟨q,fW h1 h2,h3⟩
 exact key n 0 _ (by omega) h0
theorem ady(l:List Int):aL 0 N.kW [.t (tL l)] []=some (.bp 0 0,[aT.obj ⟨l,0⟩]):=by
 refine aj K.xe rfl ?_
 simp(disch:=omega)only[go_sem,K.kW,↓reduceIte,aT.obj,reduceAdd,reduceSub]
theorem mI{d:aT}(hd:d.dY)(n:Int)(h1:1≤n)(hn:n≤4611686018427387904):
 ∃(v:Int) (e:aT),aL 0 N.aR [.bp 0 0,I n] [d.obj]=some (I v,[e.obj])∧e.dY∧0≤v∧v<n:=
 ⟨_,_,o6 d n hn hd,aT.dj hd n,d.n5 n,d.n9 h1⟩
theorem Fh{d:aT}(hd:d.dY)(n:Int)(h1:0≤n)(hn:n≤4611686018427387904):
 ∃(b:Bool) (e:aT),aL 0 N.cm [.bp 0 0,I n] [d.obj]=some (B b,[e.obj])∧e.dY:=
 ⟨_,_,KX d n h1 hn hd,aT.x7 hd n⟩
theorem Xx{d:aT}(hd:d.dY)(l:List Int)(hl:l≠[])(hn:l.length≤4294967296):
 ∃(v:Int) (e:aT),aL 0 N.bI [.bp 0 0,.t (tL l)] [d.obj]=some (I v,[e.obj])∧e.dY∧v∈l:=
 ⟨_,_,GS d l hl hn hd,aT.kg hd l,d.o7 hl⟩
theorem adz{d:aT}(hd:d.dY):
 ∃(m:bq) (e:aT),aL 0 N.df [.bp 0 0] [d.obj]=some (.t m.e,[e.obj])∧e.dY∧m.ok∧2≤m.aa.length∧m.aa.length≤7∧1≤m.roads.length∧m.roads.length≤10:=by
 have b:=d.Bv
 have p:=d.Cj
 have r:=d.Eh
 exact⟨_,_,Xw d hd,aT.Mj hd,d.Pg,by omega,by omega,by omega,by omega⟩
theorem Xy{d:aT}(hd:d.dY){m:bq}(hm:m.ok):
 ∃(l:List Spn) (e:aT),aL 0 N.cX [.bp 0 0,.t m.e] [d.obj]=some (.t (tS l),[e.obj])∧e.dY∧l.length=m.roads.length∧(∀x∈l,x.ok):=by
 have nr:=hm.nr
 exact⟨_,_,Ph d hd m (by omega),aT.uI hd _,d.zw _,d.Ck _⟩
end Go.Ev
namespace Go.Ev
open Go
variable [Lib] [bO] [bL] [dL] [dm]
abbrev never:Int:=1099511627776
abbrev Wh.box(w:Wh):Obj:= .box [I w.time,.t (tL w.frm)]
structure Req where
 x:yc
 s:RY
 k:Keys
 b:Bel
 t:Int
 from_:Int
abbrev Req.e(r:Req):T:= .agg [tL r.x.area,tI r.x.hold,tI r.x.mis,tI r.s.st,tI r.s.fi,tI r.s.se,tI r.s.ti,tL r.k.roads,tL r.k.keys,.bool r.k.out,.sl (r.b.fD.map World.e),tI r.t,tI r.from_]
structure Req.sz(r:Req):Prop where
 hx:r.x.area.length≤1000000
 hk:r.k.roads.length≤1000000
 hk2:r.k.keys.length≤1000000
 hb:r.b.sz
section
variable (x : yc) (s : RY) (k : Keys) (b : Bel) (hx : x.area.length ≤ 1000000) (hk : k.roads.length ≤ 1000000) (hk2 : k.keys.length ≤ 1000000) (hb : b.sz)
include hx hk hk2 hb
end
end Go.Ev
namespace Go.Ev
open Go
variable [Lib] [bO] [bL] [dL] [dm]
def rF(x:yc):Bool:=decide (0<x.area.length)&&lQ x.area 64&&decide (1≤x.hold∧x.hold≤100000)&&decide (1≤x.mis∧x.mis≤100000)
theorem R8(x:yc)(hx:x.area.length≤1000000):aL 0 N.gj [.t x.e] []=some (B (rF x),[]):=by
 refine aj K.sK rfl ?_
 have s:=wj x.area 64 (by omega)
 unfold rF
 generalize lQ x.area 64=r at*
 obtain⟨area,hold,mis⟩:=x
 simp only at*
 by_cases c1:0<area.length
 · cases r
   · simp(disch:=omega)only[go_sem,K.gj,↓reduceIte,s,c1]
   · by_cases h1:1≤hold<;>by_cases h2:hold≤100000<;>by_cases h3:1≤mis<;>by_cases h4:mis≤100000<;>simp(disch:=omega)only[go_sem,K.gj,↓reduceIte,s,c1,h1,h2,h3,h4]
 · simp(disch:=omega)only[go_sem,K.gj,↓reduceIte,c1]
theorem Cl(x:yc)(s:RY):JB x s=(rF x&&(decide (0≤s.st∧s.st≤4)&&decide (0≤s.ti∧s.ti≤2147483648))&&yd s):=by
 have e:=zv x.area 64
 have e:Hd x.area 0 63=lQ x.area 64:=e
 unfold JB rF
 rw[e]
 generalize lQ x.area 64=r
 have e2:(!decide (x.area.length=0))=decide (0<x.area.length):=by
  by_cases h:x.area.length=0
  · simp[h]
  · simp[h];omega
 rw[e2]
 have e3:yd s=true→0≤s.st∧s.st≤4:=by
  unfold yd
  intro h
  split at h;· omega
  split at h;· omega
  split at h;· omega
  cases h
 cases hs:yd s with
 | false=>simp
 | true=>
   have:=e3 hs
   simp only[this,and_self,decide_true,Bool.true_and,Bool.and_true]
theorem Pj(x:yc)(hx:x.area.length≤1000000)(s:RY):aL 0 N.cY [.t x.e,.t s.e] []=some (B (JB x s),[]):=by
 refine aj K.sJ rfl ?_
 have b:=R8 x hx
 rw[Cl]
 generalize rF x=r at*
 obtain⟨area,hold,mis⟩:=x
 obtain⟨st,fi,se,ti⟩:=s
 simp only at*
 cases r
 · simp(disch:=omega)only[go_sem,K.cY,↓reduceIte,b]
 by_cases h1:0≤st
 rotate_left
 · simp(disch:=omega)only[go_sem,K.cY,↓reduceIte,b,h1,false_and,decide_false,Bool.false_and,Bool.and_false]
 by_cases h2:st≤4
 rotate_left
 · simp(disch:=omega)only[go_sem,K.cY,↓reduceIte,b,h1,h2,and_false,decide_false,Bool.false_and,Bool.and_false]
 by_cases h3:0≤ti
 rotate_left
 · simp(disch:=omega)only[go_sem,K.cY,↓reduceIte,b,h1,h2,h3,false_and,decide_false,Bool.false_and,Bool.and_false]
 by_cases h4:ti≤2147483648
 rotate_left
 · simp(disch:=omega)only[go_sem,K.cY,↓reduceIte,b,h1,h2,h3,h4,and_false,decide_false,Bool.false_and,Bool.and_false]
 unfold yd
 simp only[h1,h2,h3,h4,and_self,decide_true,Bool.true_and]
 by_cases s0:st=0
 · subst s0
   by_cases c1:fi=0<;>by_cases c2:se=0<;>by_cases c3:ti=0<;>simp(disch:=omega)only[go_sem,K.cY,↓reduceIte,b]
 by_cases s1:st=1
 · subst s1
   by_cases c1:0<fi<;>by_cases c2:se=0<;>simp(disch:=omega)only[go_sem,K.cY,↓reduceIte,b,s0]
 have s2:st=2∨st=3∨st=4:=by omega
 rw[if_neg s0,if_neg s1,if_pos s2]
 by_cases c1:0<fi<;>by_cases c2:0<se<;>by_cases c3:fi=se<;>simp(disch:=omega)only[go_sem,K.cY,↓reduceIte,b]
def rkP(k:Keys)(j:Nat):Bool:=decide (nth k.keys j<0)||decide (2<nth k.keys j)||(k.out&& !decide (nth k.keys j=2))
theorem Xz(k:Keys):(!(List.range k.keys.length).any (rkP k))=(!(k.keys.any fun x=> !decide (0≤x∧x≤2))&&(!k.out||K7 k.keys)):=by
 have ea:(List.range k.keys.length).any (rkP k)=k.keys.any (fun x=>decide (x<0)||decide (2<x)||(k.out&& !decide (x=2))):=Cb k.keys (fun x=>decide (x<0)||decide (2<x)||(k.out&& !decide (x=2)))
 rw[ea]
 unfold K7
 rw[Bool.eq_iff_iff]
 cases k.out<;>simp
 constructor
 · intro h
   exact⟨fun x hx=>(h x hx).1,fun x hx=>(h x hx).2⟩
 · rintro ⟨h1,h2⟩ x hx
   exact⟨h1 x hx,h2 x hx⟩
theorem R9(k:Keys)(hl:k.keys.length≤1000000)(hr:k.roads.length≤1000000):aL 0 N.dT [.t k.e] []=some (B (Mf k),[]):=by
 refine aj K.sL rfl ?_
 have s:=wj k.roads 128 (by omega)
 have e:=Xz k
 have e2:Hd k.roads 0 127=lQ k.roads 128:=zv k.roads 128
 have e3:Mf k=(oe k.roads&&decide (k.keys.length=k.roads.length)&& !(List.range k.keys.length).any (rkP k)):=by rw[e];unfold Mf;simp only[Bool.and_assoc]
 rw[e3]
 unfold oe
 rw[e2]
 have loop:∀a:D,exS aL K.wz ⟨[a,.bp 0 0,B false,I 0],[.box [.t (tL k.roads),.t (tL k.keys),B k.out]]⟩=
  some (if(List.range k.keys.length).any (rkP k)=true
   then(.ret,⟨[.und,.bp 0 0,B false,I (uw k.keys.length (rkP k))],[.box [.t (tL k.roads),.t (tL k.keys),B k.out]]⟩)
   else(.exit 0,⟨[.und,.bp 0 0,.und,I k.keys.length],[.box [.t (tL k.roads),.t (tL k.keys),B k.out]]⟩)):=by
  intro a
  refine pc (fun j=>⟨[.und,.bp 0 0,.und,I j],[.box [.t (tL k.roads),.t (tL k.keys),B k.out]]⟩) k.keys.length (rkP k) (fun j=>(.ret,⟨[.und,.bp 0 0,B false,I j],[.box [.t (tL k.roads),.t (tL k.keys),B k.out]]⟩)) _ rfl ?_ ?_ ?_ (by simp)
  · intro j hj hp
    simp only[rkP,Bool.or_eq_false_iff,decide_eq_false_iff_not,Bool.and_eq_false_imp]at hp
    obtain⟨⟨h1,h2⟩,h3⟩:=hp
    cases ho:k.out with
    | false=>simp(disch:=omega)only[go_sem,K.gY,↓reduceIte]
    | true=>
      have h3:=h3 ho
      simp only[Bool.not_eq_false',decide_eq_true_eq]at h3
      simp(disch:=omega)only[go_sem,K.gY,↓reduceIte]
  · intro j hj hp
    refine⟨?_,by simp⟩
    unfold rkP at hp
    by_cases h1:nth k.keys j<0
    · simp(disch:=omega)only[go_sem,K.gY,↓reduceIte]
    by_cases h2:2<nth k.keys j
    · simp(disch:=omega)only[go_sem,K.gY,↓reduceIte]
    simp only[h1,h2,decide_false,Bool.false_or,aLr,Bool.not_eq_true',decide_eq_false_iff_not]at hp
    obtain⟨h3,h4⟩:=hp
    simp(disch:=omega)only[go_sem,K.gY,↓reduceIte,h3]
  · simp(disch:=omega)only[go_sem,K.gY,↓reduceIte]
 generalize lQ k.roads 128=r at*
 generalize (List.range k.keys.length).any (rkP k)=r2 at*
 generalize uw k.keys.length (rkP k)=r3 at*
 obtain⟨roads,keys,out⟩:=k
 simp only at*
 clear e e2 e3
 by_cases c1:1≤roads.length
 rotate_left
 · simp(disch:=omega)only[go_sem,K.dT,↓reduceIte]
 by_cases c2:roads.length≤12
 rotate_left
 · simp(disch:=omega)only[go_sem,K.dT,↓reduceIte]
 cases r
 · simp(disch:=omega)only[go_sem,K.dT,↓reduceIte,s]
 have c3:decide (1≤(roads.length:Int)∧(roads.length:Int)≤12)=true:=by simp;omega
 rw[c3]
 by_cases c4:keys.length=roads.length
 rotate_left
 · simp(disch:=omega)only[go_sem,K.dT,↓reduceIte,s,c4]
 cases r2
 · simp only[aLt,if_false]at loop
   simp(disch:=omega)only[go_sem,K.dT,↓reduceIte,s,c4,loop]
 · simp only[if_true]at loop
   simp(disch:=omega)only[go_sem,K.dT,↓reduceIte,s,c4,loop]
section
variable (area : List Int) (ha : area.length ≤ 1000000) (xs : List World) (hx : xs.length ≤ 1000000)
include ha hx
end
end Go.Ev
namespace Go.Ev.K
open Go.Ev
end Go.Ev.K
namespace Go.Ev
class hU [Lib]:Prop where
namespace K
variable [Lib] [hU]
end K
end Go.Ev
namespace Go.Ev.K
open Go.Ev
def gZ:Fn:= { aD:=1,vars:=[0,2,3,4],body:=(q [w 1 (.al [.nil,.nil,z1] []),x 2 (.i 0)] [] (q [w 3 (.al [.nil,.nil,z1] []),m v0,u (.app (.c (.nil)) l0 true 1),m v0,u (.ln l0),u (.mkt l0 (.int .i64 (0)) 1),u (.bd [.nil,.nil,z1] [(0,1,.l 3),(1,1,.l 0)]),u (.st l6 l0 3 [])] [(0,3),(5,1)] (.seq (.ite [h 3 v3,u (.ca N.dT 0 [] [.l 0]),u (.un .not l0)] [] 0 (q [u (.bd [.nil,.nil,z1] []),u (.st v1 l0 3 []),x 2 (.i 6)] [] .ret) .skip) (q [h 3 v3,u (.st v1 l0 3 []),x 2 (.i 0)] [] .ret)))),res:=[(1,some (3,true)),(2,none)]}
def jo:Fn:= { aD:=1,vars:=[0,1,2],body:=(q [w 1 (.bx v0 3),w 2 (.al [.nil,.nil,z1] [])] [] (q [f 0 v1,g l0,u (.app (.c (.nil)) l0 true 1),f 1 v1,g l0,u (.app (.c (.nil)) l0 true 1),f 2 v1,g l0,u (.bd [.nil,.nil,z1] [(0,1,.l 5),(1,1,.l 2),(2,1,.l 0)]),u (.st v2 l0 3 [])] [(4,0),(7,0),(7,3)] .ret)),res:=[(2,some (3,true))]}
def jq:Fn:= { aD:=1,vars:=[0,2,3],body:=(q [w 1 (.al [.nil,.nil,z1] []),x 2 (.i 0)] [] (.seq (.ite [m v0,u (.ca N.jl 0 [] [.l 0]),u (.un .not l0)] [] 0 (q [u (.bd [.nil,.nil,z1] []),u (.st v1 l0 3 []),x 2 (.i 6)] [] .ret) .skip) (q [m v0,u (.ca N.ai 0 [] [.l 0]),m v0,u (.ln l0),u (.mkt l0 (.int .i64 (0)) 1),u (.bd [.nil,.nil,z1] [(0,1,.l 3),(1,1,.l 0)]),u (.st v1 l0 3 []),x 2 (.i 0)] [(4,0)] .ret))),res:=[(1,some (3,true)),(2,none)]}
def Cm:C:= (.its [u (.bin .lss v8 v7)] [] 0 .skip (.exit 0) (.seq (.blk 1 (q [m v8,a 1 v6 v8,g l0,x 4 l2,x 5 l1] [] (.ite [m v4,f 1 v1,g l0,u (.ln l0),u (.bin .lss l3 l0),m l0,y 0 true (.fa v1 1),i 1 true l0,e 2 true v4,y 3 true (.ia l1 l0 1),i 4 true l0,y 5 true (.bin .neq l0 (.i 0)),u (.pk l6 l0 (.b false))] [] 0 (.reg [m v3,m v5,u (.bs [.l 0] 1),u (.app l2 l0 true 1),x 3 l0] []) .skip))) (.reg [u (.bin .add v8 (.i 1)),x 8 l0] [])))
def Dd:C:= .loop true [0,2,4,5] K.Cm
def kx:Fn:= { aD:=1,vars:=[0,1,2,3,4,5,7,8,9],body:=(q [w 1 (.bx v0 3),w 2 (.mv (.c (.nil)))] [] (q [w 3 (.nw 1)] [] (.seq (q [f 0 v1,w 6 (.ld l0 1 false),w 7 (.ln l0),x 8 (.i 0)] [] (.blk 0 K.Dd)) (q [m v3,u (.ca N.cH 0 [0] [.l 0])] [] (q [m v3,x 2 l0] [] .ret))))),res:=[(2,none)]}
def jr:Fn:= { aD:=2,vars:=[0,1,2,3,4],body:=(q [w 2 (.bx v0 3),w 3 (.bx v1 3),x 4 (.b false)] [] (q [f 0 v2,g l0,f 0 v3,g l0,u (.ca N.aS 0 [] [.l 2,.l 0]),m l0,y 0 true (.fa v2 1),i 1 true l0,y 2 true (.fa v3 1),i 3 true l0,y 4 true (.ca N.aS 0 [] [.l 2,.l 0]),u (.pk l5 l0 (.b false)),m l0,y 0 true (.fa v2 2),i 1 true l0,y 2 true (.fa v3 2),i 3 true l0,y 4 true (.eqk (.bool) false l2 l0),u (.pk l5 l0 (.b false)),x 4 l0] [] .ret)),res:=[(4,none)]}
def cH:Fn:= { aD:=1,vars:=[],body:= .fail,res:=[],prim:=[1]}
end Go.Ev.K
namespace Go.Ev
class bY [Lib]:Prop where
 oK:Lib.fs N.gZ=some K.gZ
 uJ:Lib.fs N.jo=some K.jo
 qf:Lib.fs N.jq=some K.jq
 yi:Lib.fs N.kx=some K.kx
 uK:Lib.fs N.jr=some K.jr
 nM:Lib.fs N.cH=some K.cH
namespace K
variable [Lib] [bY]
theorem oK:Lib.fs N.gZ=some K.gZ:=bY.oK
theorem uJ:Lib.fs N.jo=some K.jo:=bY.uJ
theorem qf:Lib.fs N.jq=some K.jq:=bY.qf
theorem yi:Lib.fs N.kx=some K.kx:=bY.yi
theorem uK:Lib.fs N.jr=some K.jr:=bY.uK
theorem nM:Lib.fs N.cH=some K.cH:=bY.nM
end K
end Go.Ev
namespace Go.Ev
open Go
variable [Lib] [bO] [bL] [dL] [dm] [hU] [dg] [dn] [eR] [dF] [bY]
theorem Pk(k:Keys)(hl:k.keys.length≤1000000)(hr:k.roads.length≤1000000):aL 0 N.jo [.t k.e] []=some (.t k.e,[]):=by
 refine aj K.uJ rfl ?_
 obtain⟨roads,keys,out⟩:=k
 simp only at*
 simp(disch:=omega)only[go_sem,K.jo,↓reduceIte,reduceAdd,reduceSub]
end Go.Ev
namespace Go.Ev
open Go
theorem JI{d:D}{n:Int}(h:Kq d=some n):d= .t (.int .i64 n):=by
 unfold Kq at h
 split at h
 · cases h;rfl
 · cases h
theorem Pl:∀ {es:List D} {l:List Int},cK Kq es=some l→es=l.map fun x=> .t (.int .i64 x)
 | [],l,h=>by simp[cK]at h;subst h;rfl
 | e::r,l,h=>by
   simp only[cK,aLa,aLb]at h
   obtain⟨x,hx,y,hy,rfl⟩:=h
   rw[JI hx,Pl hy];rfl
theorem Cn(x:Int):∀l,(Uo x l).Perm (x::l)
 | []=> .refl _
 | y::r=>by
   unfold Uo
   split
   · exact .refl _
   · exact((Cn x r).cons y).trans (.swap x y r)
theorem vE:∀l,(kS l).Perm l
 | []=> .refl _
 | x::r=>(Cn x _).trans ((vE r).cons x)
theorem Pm{x:Int}:∀ {l:List Int},l.Pairwise (· ≤ ·)→(Uo x l).Pairwise (· ≤ ·)
 | [],_=>by simp[Uo]
 | y::r,h=>by
   unfold Uo
   split
   · rename_i hx
     refine List.pairwise_cons.2 ⟨fun z hz=>?_,h⟩
     rcases List.mem_cons.1 hz with rfl | hz
     · exact hx
     · have:=(List.pairwise_cons.1 h).1 z hz;omega
   · rename_i hx
     have h':=List.pairwise_cons.1 h
     refine List.pairwise_cons.2 ⟨fun z hz=>?_,Pm h'.2⟩
     have hz:=(Cn x r).mem_iff.1 hz
     rcases List.mem_cons.1 hz with rfl | hz
     · omega
     · exact h'.1 z hz
theorem Fi:∀l,(kS l).Pairwise (· ≤ ·)
 | []=> .nil
 | x::r=>Pm (Fi r)
theorem kB(l:List Int):(kS l).length=l.length:=(vE l).length_eq
theorem Fj(l:List Int):(l.mergeSort fun x y=>decide (x≤y))=kS l:=by
 refine List.Perm.eq_of_pairwise (le:=(· ≤ ·)) (fun a b _ _ h1 h2=>by omega) ?_ (Fi l) ((List.mergeSort_perm _ _).trans (vE l).symm)
 have:=List.pairwise_mergeSort (le:=fun x y:Int=>decide (x≤y)) (fun a b c=>by simp;omega) (fun a b=>by simp;omega) l
 exact this.imp (by simp)
end Go.Ev
namespace Go.Ev
open Go
variable [Lib] [bO] [bL] [dL] [dm] [hU] [dg] [dn] [eR] [dF] [bY]
section
variable (k : Keys) (hl : k.keys.length ≤ 1000000) (hr : k.roads.length ≤ 1000000)
include hl hr
end
theorem Mo(a:Keys)(ha:a.roads.length≤1000000)(hk:a.keys.length≤1000000):aL 0 N.jr [.t a.e,.t a.e] []=some (B true,[]):=by
 refine aj K.uK rfl ?_
 have s1:=kt a.roads a.roads (by omega)
 have s2:=kt a.keys a.keys (by omega)
 simp only[decide_true]at s1 s2
 obtain⟨r,k,o⟩:=a
 simp only at*
 cases o<;>simp(disch:=omega)only[go_sem,K.jr,↓reduceIte,s1,s2,reduceAdd,reduceSub]<;>rfl
end Go.Ev
namespace Go.Ev
open Go
variable [Lib] [bO] [bL] [dL] [dm] [hU] [dg] [dn] [eR] [dF] [bY]
section
variable (b u v y : Obj) (ds : aq)
end
end Go.Ev
namespace Go.Ev.K
open Go.Ev
def Co:C:= (.its [u (.bin .lss v10 v9)] [] 0 .skip (.exit 0) (.seq (.blk 1 (q [m v10,a 2 v8 v10,h 2 l0,w 7 (.al [.nil,.nil] []),x 6 l3,u (.st l1 l2 2 [])] [] (.blk 2 (.ite [f 0 v7,g l0,u (.ln l0),u (.ca N.bc 0 [] [.l 0,.i 1,.i 12]),u (.un .not l0),m l0,y 0 false (.fa v7 1),i 1 false l0,y 2 false (.ln l0),y 3 false (.fa v7 0),i 4 false l0,y 5 false (.ln l0),y 6 false (.bin .neq l3 l0),u (.pk l7 (.b true) l0),m l0,y 0 false (.fa v7 0),i 1 false l0,y 2 false (.ca N.fK 0 [] [.l 0]),y 3 false (.un .not l0),u (.pk l4 (.b true) l0),m l0] [] 0 (q [x 4 (.b false)] [] .ret) (.ite [f 0 v7,g l0,u (.ca N.bk 0 [] [.l 0]),u (.ca N.bX 0 [] [.l 0]),m v5,u (.ca N.cq 0 [] [.l 1,.l 0]),u (.un .not l0),m l0] [] 0 (q [x 4 (.b false)] [] .ret) (.ite [m v6,u (.bin .gtr l0 (.i 0)),m l0,y 0 true (.fa v3 0),i 1 true l0,e 2 true v6,y 3 true (.bin .sub l0 (.i 1)),y 4 true (.ia l2 l0 2),y 5 true (.fa l0 0),i 6 true l0,y 7 true (.fa v7 0),i 8 true l0,y 9 true (.ca N.cg 0 [] [.l 2,.l 0]),y 10 true (.bin .geq l0 (.i 0)),u (.pk l11 l0 (.b false)),m l0] [] 0 (q [x 4 (.b false)] [] .ret) (.ite [f 1 v7,g l0,u (.mf N.iS [.v 2]),u (.ca N.aH 0 [] [.l 1,.l 0]),m l0] [] 0 (q [x 4 (.b false)] [] .ret) .skip))))))) (.reg [u (.bin .add v10 (.i 1)),x 10 l0] [])))
def De:C:= .loop true [0,1,4,6,7] K.Co
def ky:Fn:= { aD:=2,vars:=[0,1,2,3,4,5,6,7,26,27,28],body:=(q [w 2 (.bx v0 2),w 3 (.bx v1 1),x 4 (.b false)] [] (.seq (.ite [h 2 v2,u (.ca N.cy 0 [] [.l 0]),u (.un .not l0),m l0,y 0 false (.fa v3 0),i 1 false l0,y 2 false (.ln l0),y 3 false (.ca N.bc 0 [] [.l 0,.i 1,.i 24]),y 4 false (.un .not l0),u (.pk l5 (.b true) l0)] [] 0 (q [x 4 (.b false)] [] .ret) .skip) (q [f 0 v3,g l0,a 2 l0 (.i 0),f 0 l0,g l0,u (.ca N.bk 0 [] [.l 0]),u (.ca N.bX 0 [] [.l 0]),x 5 l0] [] (.seq (q [f 0 v3,w 8 (.ld l0 1 false),w 9 (.ln l0),x 10 (.i 0)] [] (.blk 0 K.De)) (q [x 4 (.b true)] [] .ret))))),res:=[(4,none)]}
def bX:Fn:= { aD:=1,vars:=[2],body:= .fail,res:=[(0,none)],prim:=[2,N.aW]}
def bk:Fn:= { aD:=1,vars:=[0,1,2],body:=(q [w 1 (.bx v0 1),w 2 (.mv (.c (.und)))] [] (q [u (.mf N.aW [.v 1]),x 2 l0] [] .ret)),res:=[(2,none)]}
def fK:Fn:= { aD:=1,vars:=[0,2,3],body:=(q [x 1 (.b false)] [] (q [m v0,u (.ca N.bk 0 [] [.l 0]),u (.ca N.bX 0 [] [.l 0]),x 2 l0] [] (q [m v2,u (.ca N.bM 0 [] [.l 0,.i 1,.i 65535]),x 1 l0] [] .ret))),res:=[(1,none)]}
def pR:C:= (.its [u (.bin .lss v9 v8)] [] 0 .skip (.exit 0) (.seq (.blk 1 (q [m v9,a 1 v7 v9,g l0,x 3 l2,x 4 l1] [] (.seq (.ite [m v3,m v1,u (.ln l0),u (.bin .geq l2 l0)] [] 0 (q [x 2 (.i 1)] [] .ret) .skip) (q [m v1,m v3,a 1 l1 l0,g l0,x 5 l0] [] (q [m v4,m v5,u (.ca N.fL 0 [] [.l 1,.l 0]),x 6 l0] [] (.ite [m v6,u (.bin .neq l0 (.i 0))] [] 0 (q [m v6,x 2 l0] [] .ret) .skip)))))) (.reg [u (.bin .add v9 (.i 1)),x 9 l0] [])))
def qG:C:= .loop true [2,3,4,5,6] K.pR
def cg:Fn:= { aD:=2,vars:=[0,1,4,5,6,7,8,9,10,11],body:=(q [x 2 (.i 0)] [] (.seq (q [x 7 v0,w 8 (.ln l0),x 9 (.i 0)] [] (.blk 0 K.qG)) (.seq (.ite [m v0,u (.ln l0),m v1,u (.ln l0),u (.bin .lss l2 l0)] [] 0 (q [w 2 (.mv (.i (-1)))] [] .ret) .skip) (q [x 2 (.i 0)] [] .ret)))),res:=[(2,none)]}
def aH:Fn:= { aD:=2,vars:=[0,1,4],body:=(q [x 2 (.b false)] [] (q [m v0,m v1,u (.ca N.aI 0 [] [.l 1,.l 0]),u (.bin .geq l0 (.i 0)),x 2 l0] [] .ret)),res:=[(2,none)]}
def iS:Fn:= { aD:=2,vars:=[0,1,2,3],body:=(q [w 2 (.bx v0 2),x 3 (.b false)] [] (q [h 2 v1,h 2 v2,u (.ca N.iN 0 [] [.l 1,.l 0]),u (.un .not l0),x 3 l0] [] .ret)),res:=[(3,none)]}
def pn:C:= (.its [u (.bin .lss v5 v4)] [] 0 .skip (.exit 0) (.seq (.blk 1 (q [a 1 v3 v5,g l0,x 2 l0] [] (.ite [m v0,m v2,u (.cw l1 0 [] [.l 0]),u (.un .not l0)] [] 0 .ret .skip))) (.reg [u (.bin .add v5 (.i 1)),x 5 l0] [])))
def pS:C:= .loop true [1,2] K.pn
def aW:Fn:= { aD:=2,vars:=[0,1,4,5,6,7],body:=(q [w 3 (.ld v1 1 false),w 4 (.ln l0),x 5 (.i 0)] [] (.blk 0 K.pS)),res:=[]}
def fL:Fn:= { aD:=2,vars:=[0,1,4,5,6],body:=(q [x 2 (.i 0)] [] (q [m v0,u (.ca N.cmp_isNaN_int 0 [] [.l 0]),x 3 l0] [] (q [m v1,u (.ca N.cmp_isNaN_int 0 [] [.l 0]),x 4 l0] [] (.seq (.ite [m v3] [] 0 (.seq (.ite [m v4] [] 0 (q [x 2 (.i 0)] [] .ret) .skip) (q [w 2 (.mv (.i (-1)))] [] .ret)) .skip) (.seq (.ite [m v4] [] 0 (q [x 2 (.i 1)] [] .ret) .skip) (.seq (.ite [m v0,m v1,u (.bin .lss l1 l0)] [] 0 (q [w 2 (.mv (.i (-1)))] [] .ret) .skip) (.seq (.ite [m v0,m v1,u (.bin .gtr l1 l0)] [] 0 (q [x 2 (.i 1)] [] .ret) .skip) (q [x 2 (.i 0)] [] .ret)))))))),res:=[(2,none)]}
def gN:C:= (.its [u (.bin .lss v5 v4)] [] 0 .skip (.exit 0) (.seq (.blk 1 (q [m v5,x 3 l0] [] (.ite [m v1,m v0,m v3,a 2 l1 l0,h 2 l0,u (.cw l4 0 [] [.l 0])] [] 0 (q [m v3,x 2 l0] [] .ret) .skip))) (.reg [u (.bin .add v5 (.i 1)),x 5 l0] [])))
def hX:C:= .loop true [2,3] K.gN
def aI:Fn:= { aD:=2,vars:=[0,1,4,5,7,8],body:=(q [x 2 (.i 0)] [] (.seq (q [m v0,w 4 (.ln l0),x 5 (.i 0)] [] (.blk 0 K.hX)) (q [w 2 (.mv (.i (-1)))] [] .ret))),res:=[(2,none)]}
def cmp_isNaN_int:Fn:= { aD:=1,vars:=[0,2],body:=(q [x 1 (.b false)] [] (q [m v0,m v0,u (.bin .neq l1 l0),x 1 l0] [] .ret)),res:=[(1,none)]}
end Go.Ev.K
namespace Go.Ev
class b7 [Lib]:Prop where
 yj:Lib.fs N.ky=some K.ky
 lE:Lib.fs N.bX=some K.bX
 jK:Lib.fs N.bk=some K.bk
 qH:Lib.fs N.fK=some K.fK
 lY:Lib.fs N.cg=some K.cg
 cU:Lib.fs N.aH=some K.aH
 uL:Lib.fs N.iS=some K.iS
 lf:Lib.fs N.aW=some K.aW
 rG:Lib.fs N.fL=some K.fL
 dh:Lib.fs N.aI=some K.aI
 uM:Lib.fs N.cmp_isNaN_int=some K.cmp_isNaN_int
namespace K
variable [Lib] [b7]
theorem yj:Lib.fs N.ky=some K.ky:=b7.yj
theorem lE:Lib.fs N.bX=some K.bX:=b7.lE
theorem jK:Lib.fs N.bk=some K.bk:=b7.jK
theorem qH:Lib.fs N.fK=some K.fK:=b7.qH
theorem lY:Lib.fs N.cg=some K.cg:=b7.lY
theorem cU:Lib.fs N.aH=some K.aH:=b7.cU
theorem uL:Lib.fs N.iS=some K.iS:=b7.uL
theorem lf:Lib.fs N.aW=some K.aW:=b7.lf
theorem rG:Lib.fs N.fL=some K.fL:=b7.rG
theorem dh:Lib.fs N.aI=some K.aI:=b7.dh
theorem uM:Lib.fs N.cmp_isNaN_int=some K.cmp_isNaN_int:=b7.uM
end K
end Go.Ev
namespace Go.Ev
open Go
variable [Lib] [bO] [bL] [dL] [dm] [hU] [dg] [dn] [eR] [dF] [bY] [b7]
theorem Hk(l:List Int):aL 0 N.bk [.t (tL l)] []=some (.fn N.aW [.bp 0 0],[.box [.t (tL l)]]):=by
 refine aj K.jK rfl ?_
 simp(disch:=omega)only[go_sem,K.bk,↓reduceIte,reduceAdd,reduceSub]
theorem Mp(l:List Int):y5 (tL l)=some l:=by
 unfold y5
 simp only
 induction l with
 | nil=>rfl
 | cons x l ih=>
   simp only[List.map_cons,cK]at ih ⊢
   rw[ih];rfl
theorem Hl(l:List Int)(hl:l.length≤1000000):aL 0 N.bX [.fn N.aW [.bp 0 0]] [.box [.t (tL l)]]=some (.t (tL (kS l)),[.box [.t (tL l)]]):=by
 refine Ov K.lE (by decide) ?_
 show AM [2,N.aW] _ _=_
 simp only[AM,if_true,List.getElem?_cons_zero,vS,aLq,Mp]
 rw[if_pos (by unfold lim;omega)]
end Go.Ev
namespace Go.Ev
open Go
variable [Lib] [bO] [bL]
theorem Cp{l:List Int}{x:Int}:0≤j6 l x↔x∈l:=by
 unfold j6
 cases hf:(List.range l.length).find? (fun j=>decide (nth l j=x))with
 | some j=>
   obtain⟨h1,h2⟩:=Oy hf
   have:=aE h1
   rw[of_decide_eq_true h2]at this
   simp[this]
 | none=>
   have:=List.find?_eq_none.1 hf
   simp only[Int.reduceNeg]
   constructor
   · intro h;simp at h
   · intro h
     obtain⟨j,hj⟩:=aLf.1 h
     have hl:=(aLe.1 hj).1
     have:=this j (aLu.2 hl)
     rw[gr hj]at this
     simp at this
theorem Fk{l:List Int}(h:fJ l=true):l.Nodup:=by
 simp only[fJ,aLx,aLu,pj,decide_eq_true_eq]at h
 refine List.pairwise_iff_getElem.2 fun i j hi hj hij e=>?_
 obtain⟨-, -,h3⟩:=h j hj
 have h4:¬nth l j∈l.take j:=fun hm=>by have:=Cp.2 hm;omega
 apply h4
 apply aLf.2
 refine⟨i,?_⟩
 rw[List.getElem?_take_of_lt hij,aLc hi,e,←aLc hj,sB hj]
def Lb(m:bq)(b:Bel)(tag:Int):Int:=if agv m b=false then 6 else if j6 (nth b.fD 0).tags tag<0 then 41 else 0
def ajp(a b:Wh)(t:Int):Bool:=(List.range (min a.frm.length b.frm.length)).any fun p=>decide (nth a.frm p≤t∧nth b.frm p≤t)
def fO(m:bq)(bh:List Int)(t:Int)(j:Nat):List Wh:=(List.range j).map fun i=>(fG m (nth bh i) t).1
theorem AD(m:bq)(bh:List Int)(t:Int)(j:Nat):fO m bh t (j+1)=fO m bh t j++[(fG m (nth bh j) t).1]:=by
 unfold fO;rw[List.range_succ,List.map_append];rfl
@[simp] theorem jL (m : bq) (bh : List Int) (t : Int) (j : Nat) : (fO m bh t j).length = j := by simp [fO]
def kH(m:bq)(tags bh:List Int)(t:Int):Bel×Int:=
 if tags.length=bh.length∧1≤tags.length∧tags.length≤12 then
  if fJ tags=true then match (List.range tags.length).find? (fun i=> !decide ((fG m (nth bh i) t).2=0))with
   | some i=>(⟨[]⟩,(fG m (nth bh i) t).2)
   | none=>(⟨[⟨tags,fO m bh t tags.length⟩]⟩,0)
  else(⟨[]⟩,41)
 else(⟨[]⟩,6)
abbrev stH(m:bq)(tags:List Int)(r:D)(ws:List Wh):aq:=[.box (ae m),.box [r],.arr 1 false 0 ((tags.map (T.int .i64)).map .t),.box [.ref 2 0 tags.length,.ref 5 0 ws.length],.arr 2 false 0 [],.arr 2 false 0 ((ws.map Wh.e).map .t)]
theorem JJ{m:bq}(h:m.ok)(tags bh:List Int)(hl:tags.length≤1000000)(t:Int):
 aL 0 N.eD [.t m.e,.t (tL tags),.t (tL bh),I t] []=some (.tup [.t (kH m tags bh t).1.e,I (kH m tags bh t).2],[]):=by
 refine aj K.si rfl ?_
 have ck:=x9 h
 have pr:=O4 tags hl
 unfold kH
 by_cases c1:tags.length=bh.length
 · by_cases c2:tags.length<1
   · simp(disch:=omega)only[go_sem,K.eD,↓reduceIte,ck,show ¬(tags.length=bh.length∧1≤tags.length∧tags.length≤12)by omega]
     rfl
   · by_cases c3:12<tags.length
     · simp(disch:=omega)only[go_sem,K.eD,↓reduceIte,ck,show ¬(tags.length=bh.length∧1≤tags.length∧tags.length≤12)by omega]
       rfl
     · have c:tags.length=bh.length∧1≤tags.length∧tags.length≤12:=by omega
       rw[if_pos c]
       clear c
       cases hp:fJ tags with
       | false=>
         rw[hp]at pr
         simp(disch:=omega)only[go_sem,K.eD,↓reduceIte,ck,pr,aLt]
         rfl
       | true=>
         rw[hp]at pr
         have loop:∀a b c d:D,exS aL K.vZ ⟨[a,.t (tL tags),.t (tL bh),I t,.bp 0 0,.bp 1 0,b,.bp 3 0,I 0,c,d],stH m tags .nil []⟩=
          some (match (List.range tags.length).find? (fun i=> !decide ((fG m (nth bh i) t).2=0))with
           | some i=>(.ret,⟨[.und,.t (tL tags),.t (tL bh),I t,.bp 0 0,.bp 1 0,I (fG m (nth bh i) t).2,.bp 3 0,I i,.bp 6 0,I (fG m (nth bh i) t).2],stH m tags .nil (fO m bh t i)++[.box [I (fG m (nth bh i) t).1.time,.t (tL (fG m (nth bh i) t).1.frm)]]⟩)
           | none=>(.exit 0,⟨[.und,.t (tL tags),.t (tL bh),I t,.bp 0 0,.bp 1 0,.und,.bp 3 0,I tags.length,.und,.und],stH m tags .nil (fO m bh t tags.length)⟩)):=by
          intro a b c d
          refine fY (fun j=>⟨[.und,.t (tL tags),.t (tL bh),I t,.bp 0 0,.bp 1 0,.und,.bp 3 0,I j,.und,.und],stH m tags .nil (fO m bh t j)⟩) tags.length _ _ _ rfl ?_ ?_ ?_ (by simp)
          · intro j hj hp
            have st:=K0 h (nth bh j) t
            have ln:=jL m bh t j
            have hp:(fG m (nth bh j) t).2=0:=by simpa using hp
            rw[AD]
            generalize fO m bh t j=L at*
            generalize fG m (nth bh j) t=r at*
            obtain⟨⟨time,frm⟩,e⟩:=r
            simp only at st hp ⊢
            subst hp
            simp(disch:=omega)only[go_sem,K.mA,↓reduceIte,stH,st,reduceAdd,reduceSub]
            done
          · intro j hj hp
            have st:=K0 h (nth bh j) t
            have ln:=jL m bh t j
            have hp:(fG m (nth bh j) t).2≠0:=by simpa using hp
            generalize fO m bh t j=L at*
            generalize fG m (nth bh j) t=r at*
            obtain⟨⟨time,frm⟩,e⟩:=r
            simp only at st hp ⊢
            refine⟨?_,by simp⟩
            simp(disch:=omega)only[go_sem,K.mA,↓reduceIte,stH,st,reduceAdd,reduceSub]
            done
          · have ln:=jL m bh t tags.length
            generalize fO m bh t tags.length=L at*
            simp(disch:=omega)only[go_sem,K.mA,↓reduceIte]
         simp only[stH,List.map_nil,List.length_nil]at loop
         simp(disch:=omega)only[go_sem,K.eD,↓reduceIte,ck,pr,loop]
         cases hf:(List.range tags.length).find? (fun i=> !decide ((fG m (nth bh i) t).2=0))with
         | some i=>
           simp(disch:=omega)only[go_sem,↓reduceIte]
           rfl
         | none=>
           have ln:=jL m bh t tags.length
           generalize fO m bh t tags.length=L at*
           simp(disch:=omega)only[go_sem,↓reduceIte]
           rfl
 · simp(disch:=omega)only[go_sem,K.eD,↓reduceIte,ck,show ¬(tags.length=bh.length∧1≤tags.length∧tags.length≤12)by omega]
   rfl
@[go_sem] theorem agy : ([] : List D).all kN = true := (rfl)
@[go_sem] theorem adA (d : D) (r : List D) : (d :: r).all kN = (kN d && r.all kN) := (rfl)
@[go_sem] theorem XA (cs : List T) : kN (.t (.agg cs)) = false := (rfl)
@[go_sem] theorem aah (cs : List T) : kN (.t (.sl cs)) = false := (rfl)
@[go_sem] theorem XB (k : IntKind) (n : Int) : kN (.t (.int k n)) = true := (rfl)
@[go_sem] theorem T1 (b : Bool) : kN (.t (.bool b)) = true := (rfl)
@[go_sem] theorem akW (l : List Wh) (k : Nat) (a : Int) (b : List Int) : (List.map D.t (List.map Wh.e l)).set k (D.t (T.agg [tI a, tL b])) = List.map D.t (List.map Wh.e (l.set k ⟨a, b⟩)) := by
 rw[List.map_set,List.map_set]
def agz(m:bq)(tag:Int)(l:List Int)(a b:Int)(x:World):Wh×Int:=akK m (nth x.whr (j6 x.tags tag).toNat) l a b
def agA(tag:Int)(x:World)(w:Wh):World:=⟨x.tags,x.whr.set (j6 x.tags tag).toNat w⟩
def ajq(tag:Int)(r:Wh×Int)(x:World)(out:List World):List World:=
 if r.2=43 then out else out++[if r.2=0 then agA tag x r.1 else x]
def XC(m:bq)(tag:Int)(l:List Int)(a b:Int)(ws:List World):Nat→List World
 | 0=>[]
 | j+1=>ajq tag (agz m tag l a b (nth ws j)) (nth ws j) (XC m tag l a b ws j)
def adB(m:bq)(tag:Int)(l:List Int)(a b:Int)(ws:List World)(j:Nat):Bool:=decide ((agz m tag l a b (nth ws j)).2=6∨(agz m tag l a b (nth ws j)).2=8)
def adC(m:bq)(b:Bel)(tag:Int)(l:List Int)(a c:Int):Bel×Int:=
 if Lb m b tag≠0 then(b,Lb m b tag)else match (List.range b.fD.length).find? (adB m tag l a c b.fD)with
  | some i=>(b,(agz m tag l a c (nth b.fD i)).2)
  | none=>if(XC m tag l a c b.fD b.fD.length).length=0 then(b,43)else(⟨XC m tag l a c b.fD b.fD.length⟩,0)
def agB(m:bq)(tag:Int)(l:List Int)(a b bl:Int)(x:World):Wh×Int:=akM m (nth x.whr (j6 x.tags tag).toNat) l a b bl
def ajr(tag:Int)(r:Wh×Int)(x:World)(out:List World):List World:=out++[if r.2=0 then agA tag x r.1 else x]
def adD(m:bq)(tag:Int)(l:List Int)(a b bl:Int)(ws:List World):Nat→List World
 | 0=>[]
 | j+1=>ajr tag (agB m tag l a b bl (nth ws j)) (nth ws j) (adD m tag l a b bl ws j)
def adE(m:bq)(tag:Int)(l:List Int)(a b bl:Int)(ws:List World)(j:Nat):Bool:=decide ((agB m tag l a b bl (nth ws j)).2=6∨(agB m tag l a b bl (nth ws j)).2=8)
def adF(m:bq)(b:Bel)(tag:Int)(l:List Int)(a c bl:Int):Bel×Int:=
 if Lb m b tag≠0 then(b,Lb m b tag)else match (List.range b.fD.length).find? (adE m tag l a c bl b.fD)with
  | some i=>(b,(agB m tag l a c bl (nth b.fD i)).2)
  | none=>(⟨adD m tag l a c bl b.fD b.fD.length⟩,0)
theorem Sa{gc:Bool}{dead:List Nat}{c:C}{vs:List D}{H:aq}(P:Nat→St→Prop)(n:Nat)(Q:Ex×St→Prop)(h0:P 0 ⟨mh dead vs,H⟩)
 (hs:∀j st,j<n→P j st→∃st',kV gc dead st.H.length (exS aL c st)=some st'∧P (j+1) st')
 (he:∀st,P n st→∃q,exS aL c st=some q∧q.1≠ .normal∧Q q):∃q,exS aL (.loop gc dead c) ⟨vs,H⟩=some q∧Q q:=by
 have key:∀(k j:Nat) (st:St),j+k=n→P j st→∃q,oX gc dead (exS aL c) st=some q∧Q q:=by
  intro k
  induction k with
  | zero=>
    intro j st hj hp
    obtain⟨q,h1,h2,h3⟩:=he st (by rw[← hj];exact hp)
    exact⟨q,fW h1 h2,h3⟩
  | succ k ih=>
    intro j st hj hp
    obtain⟨st',h1,h2⟩:=hs j st (by omega) hp
    obtain⟨q,h3,h4⟩:=ih (j+1) st' (by omega) h2
    exact⟨q,lN h1 h3,h4⟩
 exact key n 0 _ (by omega) h0
abbrev ints(l:List Int):List D:=(l.map (T.int .i64)).map .t
abbrev whs(l:List Wh):List D:=(l.map Wh.e).map .t
def Mq(out:List World)(x:World):Nat:=match (List.range out.length).find? (fun k=> !Md (nth out k).tags x.tags)with
 | some k=>k
 | none=>out.length
def adG(a b:List Wh):Nat→List Wh
 | 0=>a
 | p+1=>(adG a b p).set p (OI (nth a p) (nth b p)).1
def adH(a b:List Wh):List Wh:=adG a b (min a.length b.length)
def ajs(out:List World)(x:World):List World:=
 if Mq out x<out.length∧(nth out (Mq out x)).tags=x.tags then out.set (Mq out x) ⟨x.tags,adH (nth out (Mq out x)).whr x.whr⟩
 else out.take (Mq out x)++[x]++out.drop (Mq out x)
def adI(l:List World):Nat→List World
 | 0=>[]
 | j+1=>ajs (adI l j) (nth l j)
def adJ(l:List World):List World:=adI l l.length
structure Rp(H:aq)(id:Nat)(es:List D)(fa fb:Nat→Nat)(out:List World):Prop where
 arr:H[id]?=some (.arr 2 false 0 es)
 len:es.length=out.length
 el:∀j,j<out.length→es[j]?=some (.agg [.ref (fa j) 0 (nth out j).tags.length,.ref (fb j) 0 (nth out j).whr.length])
 ha:∀j,j<out.length→H[fa j]?=some (.arr 1 false 0 (ints (nth out j).tags))
 hb:∀j,j<out.length→H[fb j]?=some (.arr 2 false 0 (whs (nth out j).whr))
 na:∀j,j<out.length→fa j≠id
 nb:∀j,j<out.length→fb j≠id
 nab:∀i j,i<out.length→j<out.length→fa i≠fb j
 nbb:∀i j,i<out.length→j<out.length→i≠j→fb i≠fb j
@[go_sem] theorem agC (a b : Wh) : (OI a b).1.e = .agg [tI (OI a b).1.time, tL (OI a b).1.frm] := rfl
theorem Rp.size{H:aq}{id:Nat}{es:List D}{fa fb:Nat→Nat}{out:List World}(hr:Rp H id es fa fb out):∀e∈es,e.cells.length=2:=by
 intro e he
 obtain⟨j,hj⟩:=aLf.1 he
 have hl:=(aLe.1 hj).1
 rw[hr.el j (by rw[← hr.len];exact hl)]at hj
 cases hj;rfl
theorem JK{α:Type} [Dat α](l:List α)(k:Nat)(hk:k<l.length)(x:α)(j:Nat):nth (l.set k x) j=if j=k then x else nth l j:=by
 unfold nth
 rw[aLl]
 by_cases h:j=k
 · rw[if_pos h,h,aLj hk];rfl
 · rw[if_neg h,aLi (fun e=>h e.symm),aLl]
theorem Rp.merge{H:aq}{id:Nat}{es:List D}{fa fb:Nat→Nat}{out:List World}(hr:Rp H id es fa fb out){k:Nat}(hk:k<out.length)(x:World)(ht:(nth out k).tags=x.tags)(hw:x.whr.length=(nth out k).whr.length):
 Rp (H.set (fb k) (.arr 2 false 0 (whs x.whr))) id es fa fb (out.set k x):=by
 have ol:(out.set k x).length=out.length:=List.length_set
 have nk:=hr.nb k hk
 have kl:=Cc (hr.hb k hk)
 refine⟨by rw[rB nk];exact hr.arr,by rw[ol];exact hr.len,?_,?_,?_,by rw[ol];exact hr.na,by rw[ol];exact hr.nb,by rw[ol];exact hr.nab,by rw[ol];exact hr.nbb⟩
 · intro j hj
   rw[ol]at hj
   rw[hr.el j hj,JK out k hk]
   by_cases h:j=k
   · rw[if_pos h,h,ht,hw]
   · rw[if_neg h]
 · intro j hj
   rw[ol]at hj
   rw[rB (fun e=>hr.nab j k hj hk e.symm),hr.ha j hj,JK out k hk]
   by_cases h:j=k
   · rw[if_pos h,h,ht]
   · rw[if_neg h]
 · intro j hj
   rw[ol]at hj
   rw[JK out k hk]
   by_cases h:j=k
   · rw[if_pos h,h,Eb kl]
   · rw[if_neg h,rB (fun e=>hr.nbb j k hj hk h e.symm)];exact hr.hb j hj
theorem Rp.frz{H:aq}{id:Nat}{es:List D}{fa fb:Nat→Nat}{out:List World}(hr:Rp H id es fa fb out):
 cK (frz H 8) es=some (out.map World.e)∧∀i∈es.flatMap (gz H 8),i≠id:=by
 have hl:=hr.len
 have key:∀(j:Nat) (hj:j<out.length),Go.Ev.frz H 8 (.agg [.ref (fa j) 0 (nth out j).tags.length,.ref (fb j) 0 (nth out j).whr.length])=some (nth out j).e∧
  gz H 8 (.agg [.ref (fa j) 0 (nth out j).tags.length,.ref (fb j) 0 (nth out j).whr.length])=[fa j,fb j]:=by
  intro j hj
  have h1:=hr.ha j hj
  have h2:=hr.hb j hj
  simp(disch:=omega)only[go_sem,h1,h2,ints,whs,↓reduceIte]
 constructor
 · have:∀(es:List D) (ts:List T),es.length=ts.length→(∀(j:Nat) e t,es[j]?=some e→ts[j]?=some t→Go.Ev.frz H 8 e=some t)→cK (Go.Ev.frz H 8) es=some ts:=by
    intro es
    induction es with
    | nil=>intro ts h _;cases ts with
      | nil=>rfl
      | cons=>simp at h
    | cons e es ih=>
      intro ts h hh
      cases ts with
      | nil=>simp at h
      | cons t ts=>
        have h1:=hh 0 e t rfl rfl
        have h2:=ih ts (by simpa using h) fun j e t he ht=>hh (j+1) e t (by simpa using he) (by simpa using ht)
        simp only[cK,h1,aLq,h2,aLw]
   refine this es _ (by rw[List.length_map,hl]) fun j e t he ht=>?_
   have hj:j<out.length:=by rw[← hl];exact(aLe.1 he).1
   rw[hr.el j hj]at he
   rw[bE _ hj]at ht
   cases he;cases ht
   exact(key j hj).1
 · intro i hi
   obtain⟨e,he,hi⟩:=List.mem_flatMap.1 hi
   obtain⟨j,hj⟩:=aLf.1 he
   have hjl:j<out.length:=by rw[← hl];exact(aLe.1 hj).1
   rw[hr.el j hjl]at hj
   cases hj
   rw[(key j hjl).2]at hi
   simp only[List.mem_cons,List.not_mem_nil,or_false]at hi
   rcases hi with rfl | rfl
   · exact hr.na j hjl
   · exact hr.nb j hjl
@[go_sem] theorem T2 {α β γ : Type} [Dat α] (f : β → γ) (g : α → β) {l : List α} {i j : Nat} {x : α} (h : j < l.length) : (((l.set i x).map g).map f)[j]? = some (f (g (nth (l.set i x) j))) := Br f g (by rw [List.length_set]; exact h)
def ajt(l:List Int)(i j:Nat):List Int:=(l.set i (nth l j)).set j (nth l i)
def aju(i j:Nat)(t:Int)(x:World):World:=⟨ajt x.tags i j,(x.whr.set i (OF (nth x.whr i) t).1).set j (OF (nth x.whr j) t).1⟩
def ajv(i j:Nat)(t:Int)(x:World)(out:List World):List World:=if ajp (nth x.whr i) (nth x.whr j) t=true then out++[aju i j t x]else out
def Pn(i j:Nat)(t:Int)(ws:List World):Nat→List World
 | 0=>ws
 | k+1=>ajv i j t (nth ws k) (Pn i j t ws k)
def XD(m:bq)(b:Bel)(i j t:Int):Bel×Int:=
 if agv m b=false then(b,6)else if i<0∨((nth b.fD 0).tags.length:Int)≤i∨j<0∨((nth b.fD 0).tags.length:Int)≤j∨i=j then(b,19)
 else if ¬inT t then(b,8)else if 24<(adJ (Pn i.toNat j.toNat t b.fD b.fD.length)).length then(b,44)else(⟨adJ (Pn i.toNat j.toNat t b.fD b.fD.length)⟩,0)
def adK:Nat→List Int
 | 0=>[]
 | k+1=>adK k++[3+(k:Int)*2]
def aT.Lc(d:aT)(n:Int):Nat→List Int×aT
 | 0=>([],d)
 | k+1=>((d.Lc n k).1++[((d.Lc n k).2.next n).1],((d.Lc n k).2.next n).2)
structure BSt where
 b:Bel
 t:Int
 d:aT
def aT.XE(m:bq)(n:Int)(s:BSt):BSt:=
 let a:=s.d.next 60
 let c:=a.2.next 3
 if c.1=0 then
  let i:=c.2.next n
  let j:=i.2.next n
  let r:=XD m s.b i.1 j.1 (s.t+a.1)
  ⟨if r.2=0 then r.1 else s.b,s.t+a.1,j.2⟩
 else if c.1=1 then
  let g:=c.2.next n
  let l:=g.2.o8 m.aa.length
  let e:=l.2.next 9
  let r:=adC m s.b (3+2*g.1) l.1 (s.t+a.1) (s.t+a.1+e.1)
  ⟨if r.2=0 then r.1 else s.b,s.t+a.1,e.2⟩
 else
  let g:=c.2.next n
  let l:=g.2.o8 m.aa.length
  let e:=l.2.next 40
  let r:=adF m s.b (3+2*g.1) l.1 (s.t+a.1) (s.t+a.1+50) e.1
  ⟨if r.2=0 then r.1 else s.b,s.t+a.1,e.2⟩
def aT.akX(m:bq)(n:Int)(s:BSt):Nat→BSt
 | 0=>s
 | k+1=>aT.XE m n (aT.akX m n s k)
def aT.ajw(d:aT):Nat:=(1+(d.next 3).1).toNat
def aT.agD(d:aT)(m:bq):List Int×aT:=(d.next 3).2.Lc m.aa.length d.ajw
def aT.alT(d:aT)(m:bq):BSt:=⟨(kH m (adK d.ajw) (d.agD m).1 ((d.agD m).2.next 100).1).1,100,(((d.agD m).2.next 100).2.next 5).2⟩
def aT.alU(d:aT)(m:bq):Nat:=(((d.agD m).2.next 100).2.next 5).1.toNat
def aT.akY(d:aT)(m:bq):BSt:=aT.akX m d.ajw (d.alT m) (d.alU m)
def aT.akZ(d:aT)(m:bq):Bel×aT:=((d.akY m).b,(d.akY m).d)
structure WOk(m:bq)(N:Nat)(x:World):Prop where
 tg:x.tags.length=N
 wh:x.whr.length=N
 fr:∀w∈x.whr,w.frm.length=m.aa.length
 ti:∀w∈x.whr,inT w.time
structure BOk(m:bq)(N:Nat)(b:Bel):Prop where
 w1:1≤b.fD.length
 w2:b.fD.length≤24
 n1:1≤N
 n2:N≤12
 ws:∀x∈b.fD,WOk m N x
theorem WOk.sz{m:bq}{N:Nat}{x:World}(h:WOk m N x)(hm:m.ok)(hn:N≤12):x.sz:=by
 have np:=hm.np
 obtain⟨t1,t2,t3, -⟩:=h
 exact⟨by omega,by omega,fun w hw=>by rw[t3 w hw];omega⟩
theorem BOk.sz{m:bq}{N:Nat}{b:Bel}(h:BOk m N b)(hm:m.ok):b.sz:=
 ⟨by have:=h.w2;omega,fun x hx=>(h.ws x hx).sz hm h.n2⟩
def aT.spread(d:aT)(m:bq)(fl:List Spn):Wh×aT:=
 let p:=d.next m.aa.length
 let t:=p.2.next 200
 let s:=Cf m fl [p.1] t.1
 let o:=t.2.one 2
 if o.1=true then
  let f:=o.2.R7 m
  let a:=f.2.next 100
  let r:=WS m fl m f.1 s.1 (s.1.time+a.1)
  if r.2=0 then(r.1,a.2)else(s.1,a.2)
 else(s.1,o.2)
structure Mch where
 kind:Int
 num:Int
 pl:List Int
instance : Dat Mch := ⟨⟨0, 0, []⟩⟩
abbrev Mch.e(x:Mch):T:= .agg [tI x.kind,tI x.num,tL x.pl]
@[go_sem] theorem adL (l : List Mch) : nH 3 (l.map Mch.e) = true := by cases l <;> rfl
theorem Ld{α:Type} [Dat α]{l:List α}{p:α→Bool}:((List.range l.length).find? fun j=>p (nth l j)).isSome=l.any p:=by
 rw[List.isSome_find?,Bool.eq_iff_iff,List.any_eq_true,List.any_eq_true]
 constructor
 · rintro ⟨j,hj,h⟩
   exact⟨_,aE (aLu.1 hj),h⟩
 · rintro ⟨x,hx,h⟩
   obtain⟨j,hj⟩:=aLf.1 hx
   exact⟨j,aLu.2 (aLe.1 hj).1,by rw[gr hj];exact h⟩
end Go.Ev
namespace Go.Ev
open Go
variable [Lib] [bO] [bL] [dL] [dm] [hU] [dg] [dn] [eR] [dF] [bY] [b7]
theorem xn{l:List Int}:fJ l=true↔l.Nodup∧∀x∈l,1≤x∧x≤65535:=by
 constructor
 · intro h
   refine⟨Fk h,fun x hx=>?_⟩
   simp only[fJ,aLx,aLu,pj,decide_eq_true_eq]at h
   obtain⟨j,hj⟩:=aLf.1 hx
   have:=h j (aLe.1 hj).1
   rw[gr hj]at this
   exact⟨this.1,this.2.1⟩
 · rintro ⟨h1,h2⟩
   simp only[fJ,aLx,aLu,pj,decide_eq_true_eq]
   intro j hj
   obtain⟨a,b⟩:=h2 _ (aE hj)
   refine⟨a,b,Decidable.byContradiction fun c=>?_⟩
   obtain⟨d,e⟩:=Me (l:=l.take j) (x:=nth l j) (by omega)
   have z:0≤j6 (l.take j) (nth l j):=by omega
   generalize j6 (l.take j) (nth l j)=k at*
   rw[List.length_take]at d
   have k1:k.toNat<j:=by omega
   have e1:(l.take j)[k.toNat]?=l[k.toNat]?:=List.getElem?_take_of_lt k1
   have e2:l[k.toNat]?=some l[k.toNat]:=aLc (by omega)
   rw[gr (e1.trans e2),←gr e2]at e
   have n2:=(List.getElem?_inj (by omega:k.toNat<l.length) h1).1 (show l[k.toNat]?=l[j]? by rw[sB (by omega),sB hj,e])
   omega
theorem Sb{l:List Int}{lo hi:Int}:Hd l lo hi=true↔l.Pairwise (· < ·)∧∀x∈l,lo≤x∧x≤hi:=by
 have e:Hd l lo hi=true↔∀j,j<l.length→lo≤nth l j∧nth l j≤hi∧(0<j→nth l (j-1)<nth l j):=by
  simp only[Hd,Bool.not_eq_true',List.any_eq_false,aLu,O5,Bool.not_eq_true]
  constructor
  · intro h j hj
    have:=h j hj
    exact Decidable.byContradiction fun c=>this (decide_eq_false c)
  · intro h j hj c
    exact(of_decide_eq_false c) (h j hj)
 rw[e]
 constructor
 · intro h
   refine⟨?_,fun x hx=>?_⟩
   · have key:∀d i,i+d+1<l.length→nth l i<nth l (i+d+1):=by
      intro d
      induction d with
      | zero=>intro i hi;have:=(h (i+0+1) hi).2.2 (by omega);simpa using this
      | succ d ih=>
        intro i hi
        have a:=ih i (by omega)
        have b:=(h (i+(d+1)+1) hi).2.2 (by omega)
        rw[show i+(d+1)+1-1=i+d+1 by omega]at b
        omega
     rw[List.pairwise_iff_getElem]
     intro i j hi hj hij
     have:=key (j-i-1) i (by omega)
     rw[show i+(j-i-1)+1=j by omega,gr (aLc hi),gr (aLc hj)]at this
     exact this
   · obtain⟨j,hj⟩:=aLf.1 hx
     have:=h j (aLe.1 hj).1
     rw[gr hj]at this
     exact⟨this.1,this.2.1⟩
 · rintro ⟨h1,h2⟩ j hj
   refine⟨(h2 _ (aE hj)).1,(h2 _ (aE hj)).2,fun h0=>?_⟩
   have:=(List.pairwise_iff_getElem.1 h1) (j-1) j (by omega) hj (by omega)
   rwa [← gr (aLc (by omega:j-1<l.length)),←gr (aLc hj)]at this
theorem Ei(l:List Int):Hd (kS l) 1 65535=fJ l:=by
 rw[Bool.eq_iff_iff,Sb,xn]
 have p:=vE l
 have u:=Fi l
 constructor
 · rintro ⟨h1,h2⟩
   refine⟨p.nodup_iff.1 (h1.imp fun h=>by omega),fun x hx=>h2 x (p.mem_iff.2 hx)⟩
 · rintro ⟨h1,h2⟩
   have nd:(kS l).Nodup:=p.nodup_iff.2 h1
   refine⟨?_,fun x hx=>h2 x (p.mem_iff.1 hx)⟩
   have:=List.Pairwise.and u nd
   exact this.imp fun h=>by omega
theorem Po(l:List Int)(hl:l.length≤1000000):aL 0 N.fK [.t (tL l)] []=some (B (fJ l),[]):=by
 refine aj K.qH rfl ?_
 have v:=Hk l
 have s:=Hl l hl
 have r:=mF (kS l) 1 65535 (by rw[kB];omega)
 rw[Ei]at r
 simp(disch:=omega)only[go_sem,K.fK,↓reduceIte,v,s,r,reduceAdd,reduceSub]
end Go.Ev
namespace Go.Ev
open Go
variable [Lib] [bO] [bL] [eR] [dF]
end Go.Ev
namespace Go.Ev
open Go
variable [Lib] [bO] [bL] [dL] [dm] [dg] [dn] [eR] [dF]
end Go.Ev
namespace Go.Ev
open Go
variable [Lib] [bO] [bL]
section
variable {m : bq} (hm : m.ok) {N : Nat} {b : Bel} (hb : BOk m N b) {s : Wh} (hs : s.frm.length = m.aa.length) {l : List Mch}
variable (hl : ∀ y ∈ l, y.pl.length ≤ m.aa.length ∧ 1 ≤ y.pl.length ∧ ∀ x ∈ y.pl, 0 ≤ x ∧ x < m.aa.length) {t a : Int} (t0 : 0 ≤ t) (t1 : t ≤ 10000) (a0 : 0 ≤ a) (a1 : a ≤ 10000) (d : aT)
include hm hb hs hl t0 t1 a0 a1
omit hm hb t0 t1 a1 in
end
def aT.skip(d:aT)(n:Int):Nat→aT
 | 0=>d
 | k+1=>((d.skip n k).next n).2
end Go.Ev
namespace Go.Ev
open Go
variable [Lib] [bO] [bL] [hU]
end Go.Ev
namespace Go.Ev
open Go
variable [Lib] [bO] [bL] [dL] [dm] [hU] [dg] [dn] [eR] [dF]
end Go.Ev
namespace Go.Ev
open Go
variable [Lib] [bO] [bL] [dL] [dm] [hU] [dg] [dn] [eR] [dF] [bY] [b7]
def lexB:List Int→List Int→Bool
 | _,[]=>false
 | [],_::_=>true
 | a::r,b::s=>decide (a<b)||(decide (a=b)&&lexB r s)
theorem yk(a:Int)(l:List Int)(j:Nat):nth (a::l) (j+1)=nth l j:=by simp[nth]
theorem ym(a:Int)(l:List Int):nth (a::l) 0=a:=by simp[nth]
theorem Le:∀a b:List Int,Md a b=lexB a b
 | a,[]=>by
   unfold Md lexB
   simp
 | [],b::s=>by
   unfold Md lexB
   simp
 | a::r,b::s=>by
   have ih:=Le r s
   unfold Md at ih ⊢
   have e:min (a::r).length (b::s).length=min r.length s.length+1:=by simp only[List.length_cons];omega
   rw[e,List.range_succ_eq_map,List.find?_cons]
   simp only[ym]
   by_cases h:a=b
   · subst h
     simp only[ne_eq,not_true_eq_false,decide_false,aLt,List.find?_map,lexB,decide_true,Bool.true_and,Int.lt_irrefl,Bool.false_or]
     rw[← ih]
     have:((fun j=>decide (¬nth (a::r) j=nth (a::s) j)) ∘ Nat.succ)=fun j=>decide (nth r j≠nth s j):=by
      funext j
      simp only[Function.comp,Nat.succ_eq_add_one,yk,ne_eq]
     rw[this]
     cases (List.range (min r.length s.length)).find? (fun j=>decide (nth r j≠nth s j))with
     | some j=>simp only[aLw,Nat.succ_eq_add_one,yk]
     | none=>simp only[Option.map_none,List.length_cons,Nat.add_lt_add_iff_right]
   · simp only[ne_eq,h,not_false_eq_true,decide_true,lexB,decide_false,Bool.false_and,Bool.or_false,ym]
structure WV(m:bq)(first:List Int)(x:World):Prop where
 pm:x.tags.Perm first
 wl:x.whr.length=first.length
 wv:∀w∈x.whr,G1 m w=true
structure BV(m:bq)(first:List Int)(ws:List World):Prop where
 pr:fJ first=true
 f1:1≤first.length
 f2:first.length≤12
 wv:∀x∈ws,WV m first x
 up:ws.Pairwise fun x y=>lexB x.tags y.tags=true
theorem JL{a b:List Int}(h:a.Perm b)(hb:fJ b=true):fJ a=true:=by
 rw[xn]at hb ⊢
 exact⟨h.nodup_iff.2 hb.1,fun x hx=>hb.2 x (h.mem_iff.1 hx)⟩
theorem BV.bel{m:bq}{first:List Int}{ws:List World}(h:BV m first ws)(h1:1≤ws.length)(h2:ws.length≤24):agv m ⟨ws⟩=true:=by
 have w0:=h.wv _ (aE (l:=ws) (j:=0) (by omega))
 have l0:=w0.pm.length_eq
 simp only[agv,aLr,decide_eq_true_eq,aLx,aLu,TR,Bool.or_eq_true,akS]
 have f1:=h.f1
 have f2:=h.f2
 refine⟨⟨⟨h1,h2⟩,by omega⟩,fun i hi=>?_⟩
 have wi:=h.wv _ (aE (l:=ws) (j:=i) hi)
 have li:=wi.pm.length_eq
 have wl:=wi.wl
 refine⟨⟨⟨by omega,JL wi.pm h.pr⟩,?_⟩,fun k hk=>⟨?_,?_⟩⟩
 · by_cases c:i=0
   · exact .inl c
   · right
     rw[Le]
     have:=(List.pairwise_iff_getElem.1 h.up) (i-1) i (by omega) hi (by omega)
     rwa [← gr (aLc (by omega:i-1<ws.length)),←gr (aLc hi)]at this
 · exact Cp.2 (w0.pm.symm.mem_iff.1 (wi.pm.mem_iff.1 (aE hk)))
 · exact wi.wv _ (aE (by omega))
end Go.Ev
namespace Go.Ev.K
open Go.Ev
def mJ:C:= (.its [u (.bin .lss v13 v12)] [] 0 .skip (.exit 1) (.seq (.blk 2 (q [a 1 v11 v13,g l0,x 8 l0] [] (q [h 2 v4,m v8,m v3,u (.ca N.eU 0 [] [.l 2,.l 1,.l 0]),m l0,u (.ex l0 0),u (.ex l1 1),w 9 (.al [z0,.nil] []),u (.st l0 l2 2 []),x 10 l2] [] (.seq (.ite [m v10,u (.bin .neq l0 (.i 0))] [] 0 (q [u (.bd [.nil] []),m v10,u (.st v5 l1 1 []),x 6 l1] [] .ret) .skip) (.reg [f 1 v7,g l0,h 2 v9,u (.bs [.l 0] 2),u (.app l2 l0 true 2),f 1 v7,u (.st l0 l1 1 [])] []))))) (.reg [u (.bin .add v13 (.i 1)),x 13 l0] [])))
def wC:C:= .loop true [0,1,2,6,8,9,10] K.mJ
def eG:Fn:= { aD:=4,vars:=[0,1,2,3,4,8,9,10,12,13,14,41,42,43],body:=(q [w 4 (.bx v0 2),w 5 (.al [.nil] []),x 6 (.i 0)] [] (.seq (.blk 0 (.ite [h 2 v4,u (.ca N.cy 0 [] [.l 0]),u (.un .not l0),m l0,e 0 false v1,y 1 false (.ln l0),e 2 false v2,y 3 false (.ln l0),y 4 false (.bin .neq l2 l0),u (.pk l5 (.b true) l0),m l0,e 0 false v1,y 1 false (.ln l0),y 2 false (.ca N.bc 0 [] [.l 0,.i 1,.i 12]),y 3 false (.un .not l0),u (.pk l4 (.b true) l0),m l0] [] 0 (q [u (.bd [.nil] []),u (.st v5 l0 1 []),x 6 (.i 6)] [] .ret) (.ite [m v1,u (.ca N.fK 0 [] [.l 0]),u (.un .not l0),m l0] [] 0 (q [u (.bd [.nil] []),u (.st v5 l0 1 []),x 6 (.i 41)] [] .ret) .skip))) (q [m v1,u (.ca N.ai 0 [] [.l 0]),u (.bd [.nil,.nil] [(0,1,.l 0)]),w 7 (.al [.nil,.nil] [(1,2)]),u (.st l0 l1 2 [(1,2)])] [] (.seq (q [x 11 v2,w 12 (.ln l0),x 13 (.i 0)] [] (.blk 1 K.wC)) (q [h 2 v7,u (.bs [.l 0] 2),u (.bd [.nil] [(0,1,.l 0)]),u (.st v5 l0 1 []),x 6 (.i 0)] [] .ret))))),res:=[(5,some (1,true)),(6,none)]}
def nL:Fn:= { aD:=6,vars:=[0,1,2,3,4,5,6,7,9,10,11,12,13],body:=(q [w 6 (.bx v0 2),w 7 (.bx v1 1),w 8 (.bx v3 1),w 9 (.bx v4 1),w 10 (.bx v5 1),w 11 (.al [.nil] []),x 12 (.i 0)] [] (q [h 2 v6,h 1 v7,m v2,u (.mf N.kz [.v 6,.v 8,.v 9,.v 10]),u (.ca N.jJ 0 [] [.l 3,.l 2,.l 1,.l 0]),u (.ex l0 0),u (.ex l1 1),u (.st v11 l1 1 []),x 12 l1] [] .ret)),res:=[(11,some (1,true)),(12,none)]}
def jD:Fn:= { aD:=7,vars:=[0,1,2,3,4,5,6,7,8,10,11,12,13,14,15],body:=(q [w 7 (.bx v0 2),w 8 (.bx v1 1),w 9 (.bx v3 1),w 10 (.bx v4 1),w 11 (.bx v5 1),w 12 (.bx v6 1),w 13 (.al [.nil] []),x 14 (.i 0)] [] (q [h 2 v7,h 1 v8,m v2,u (.mf N.gE [.v 7,.v 9,.v 10,.v 11,.v 12]),u (.ca N.jJ 0 [] [.l 3,.l 2,.l 1,.l 0]),u (.ex l0 0),u (.ex l1 1),u (.st v13 l1 1 []),x 14 l1] [] .ret)),res:=[(13,some (1,true)),(14,none)]}
end Go.Ev.K
namespace Go.Ev
class dw [Lib]:Prop where
 sP:Lib.fs N.eG=some K.eG
 Cq:Lib.fs N.nL=some K.nL
 wD:Lib.fs N.jD=some K.jD
namespace K
variable [Lib] [dw]
theorem sP:Lib.fs N.eG=some K.eG:=dw.sP
theorem Cq:Lib.fs N.nL=some K.nL:=dw.Cq
theorem wD:Lib.fs N.jD=some K.jD:=dw.wD
end K
end Go.Ev
namespace Go.Ev.K
open Go.Ev
def qI:C:= (.seq (.ite [m v8,f 1 v6,g l0,u (.ln l0),u (.bin .lss l3 l0)] [] 0 .skip (.exit 2)) (.seq (.blk 3 (.ite [f 1 v6,g l0,m v8,a 2 l1 l0,h 2 l0,f 1 v7,g l0,m v8,a 2 l1 l0,h 2 l0,u (.ca N.jn 0 [] [.l 5,.l 0]),u (.un .not l0)] [] 0 (q [x 4 (.b false)] [] .ret) .skip)) (.reg [m v8,u (.bin .add l0 (.i 1)),x 8 l0] [])))
def yn:C:= .loop true [0,1,4] K.qI
def qJ:C:= (.seq (.ite [m v5,f 0 v2,g l0,u (.ln l0),u (.bin .lss l3 l0)] [] 0 .skip (.exit 0)) (.seq (.blk 1 (q [w 6 (.al [.nil,.nil] []),w 7 (.al [.nil,.nil] []),f 0 v2,g l0,m v5,a 2 l1 l0,h 2 l0,f 0 v3,g l0,m v5,a 2 l1 l0,h 2 l0,u (.st l11 l5 2 []),u (.st l11 l1 2 [])] [(8,13),(10,13),(11,13)] (.seq (.ite [f 0 v6,g l0,f 0 v7,g l0,u (.ca N.aS 0 [] [.l 2,.l 0]),u (.un .not l0),m l0,y 0 false (.fa v6 1),i 1 false l0,y 2 false (.ln l0),y 3 false (.fa v7 1),i 4 false l0,y 5 false (.ln l0),y 6 false (.bin .neq l3 l0),u (.pk l7 (.b true) l0)] [] 0 (q [x 4 (.b false)] [] .ret) .skip) (q [x 8 (.i 0)] [] (.blk 2 K.yn))))) (.reg [m v5,u (.bin .add l0 (.i 1)),x 5 l0] [])))
def yo:C:= .loop true [0,1,4,6,7,8] K.qJ
def gM:Fn:= { aD:=2,vars:=[0,1,2,3,4,5,6,7,8],body:=(q [w 2 (.bx v0 1),w 3 (.bx v1 1),x 4 (.b false)] [] (.seq (.ite [f 0 v2,g l0,u (.ln l0),f 0 v3,g l0,u (.ln l0),u (.bin .neq l3 l0)] [] 0 (q [x 4 (.b false)] [] .ret) .skip) (.seq (q [x 5 (.i 0)] [] (.blk 0 K.yo)) (q [x 4 (.b true)] [] .ret)))),res:=[(4,none)]}
def po:C:= (.its [u (.bin .lss v7 v6)] [] 0 .skip (.exit 0) (.seq (.blk 1 (q [a 2 v5 v7,h 2 l0,w 4 (.al [z0,.nil] []),u (.st l0 l1 2 [])] [] (.reg [f 1 v3,g l0,f 0 v4,g l0,f 1 v4,g l0,u (.ca N.ai 0 [] [.l 0]),u (.bd [z0,.nil] [(0,1,.l 3),(1,1,.l 0)]),u (.bs [.l 0] 2),u (.app l7 l0 true 2),f 1 v3,u (.st l0 l1 1 [])] [(1,7),(1,9),(3,7)]))) (.reg [u (.bin .add v7 (.i 1)),x 7 l0] [])))
def wE:C:= .loop true [0,1,4] K.po
def i9:Fn:= { aD:=1,vars:=[0,1,2,3,5,11,12,13],body:=(q [w 1 (.bx v0 2),w 2 (.al [.nil,.nil] [])] [] (q [f 0 v1,g l0,u (.ca N.ai 0 [] [.l 0]),u (.bd [.nil,.nil] [(0,1,.l 0)]),w 3 (.al [.nil,.nil] [(1,2)]),u (.st l0 l1 2 [(1,2)])] [] (.seq (q [f 1 v1,w 5 (.ld l0 1 false),w 6 (.ln l0),x 7 (.i 0)] [] (.blk 0 K.wE)) (q [h 2 v3,u (.st v2 l0 2 [])] [] .ret)))),res:=[(2,some (2,true))]}
def Cr:C:= (.its [u (.bin .lss v16 v15)] [] 0 .skip (.exit 0) (.seq (.blk 1 (q [a 2 v14 v16,h 2 l0,w 9 (.al [.nil,.nil] []),u (.st l0 l1 2 [])] [] (q [f 0 v9,g l0,m v2,u (.ca N.bK 0 [] [.l 1,.l 0]),x 10 l0] [] (q [h 2 v9,u (.ca N.gF 1 [] [.l 0]),w 11 (.al [.nil,.nil] []),u (.st l0 l1 2 [])] [] (q [m v3,f 1 v11,g l0,m v10,a 2 l1 l0,h 2 l0,u (.cw l5 0 [] [.l 0]),m l0,u (.ex l0 0),u (.ex l1 1),w 12 (.al [z0,.nil] []),u (.st l0 l2 2 []),x 13 l2] [] (.seq (q [x 17 v13] [] (.blk 2 (.seq (q [u (.bin .eql v17 (.i 6)),x 18 l0] [] (.itv 18 .skip (.reg [u (.bin .eql v17 (.i 8)),x 18 l0] []))) (.itv 18 (q [h 1 v5,m v13,u (.st v6 l1 1 []),x 7 l1] [] .ret) (.ite [u (.bin .eql v17 (.i 43)),m l0] [] 0 (.exit 1) (.ite [u (.bin .eql v17 (.i 0)),m l0] [] 0 (.reg [f 1 v11,g l0,m v10,h 2 v12,a 2 l2 l1,u (.st l0 l1 2 [])] []) .skip)))))) (.reg [f 0 v8,g l0,h 2 v11,u (.bs [.l 0] 2),u (.app l2 l0 true 2),f 0 v8,u (.st l0 l1 1 [])] []))))))) (.reg [u (.bin .add v16 (.i 1)),x 16 l0] [])))
def Df:C:= .loop true [0,1,4,7,9,10,11,12,13,17,18] K.Cr
def jJ:Fn:= { aD:=4,vars:=[0,1,2,3,4,5,8,9,10,12,13,14,15,16,32,33,34,54,55],body:=(q [w 4 (.bx v0 2),w 5 (.bx v1 1),w 6 (.al [.nil] []),x 7 (.i 0)] [] (.seq (.ite [h 2 v4,h 1 v5,u (.ca N.ky 0 [] [.l 1,.l 0]),u (.un .not l0)] [] 0 (q [h 1 v5,u (.st v6 l0 1 []),x 7 (.i 6)] [] .ret) .skip) (.seq (.ite [f 0 v5,g l0,a 2 l0 (.i 0),f 0 l0,g l0,m v2,u (.ca N.aP 0 [] [.l 1,.l 0]),u (.un .not l0)] [] 0 (q [h 1 v5,u (.st v6 l0 1 []),x 7 (.i 41)] [] .ret) .skip) (q [w 8 (.al [.nil] [(0,2)])] [] (.seq (q [f 0 v5,w 14 (.ld l0 1 false),w 15 (.ln l0),x 16 (.i 0)] [] (.blk 0 K.Df)) (.seq (.ite [f 0 v8,g l0,u (.ln l0),u (.bin .eql l0 (.i 0))] [] 0 (q [h 1 v5,u (.st v6 l0 1 []),x 7 (.i 43)] [] .ret) .skip) (q [h 1 v8,u (.st v6 l0 1 []),x 7 (.i 0)] [] .ret))))))),res:=[(6,some (1,true)),(7,none)]}
def kz:Fn:= { aD:=5,vars:=[0,1,2,3,4,5,6,7],body:=(q [w 5 (.bx v0 2),w 6 (.al [z0,.nil] []),x 7 (.i 0)] [] (q [h 2 v1,h 2 v5,g v2,g v3,g v4,u (.ca N.lW 0 [] [.l 4,.l 3,.l 2,.l 1,.l 0]),u (.ex l0 0),u (.ex l1 1),u (.st v6 l1 2 []),x 7 l1] [] .ret)),res:=[(6,some (2,true)),(7,none)]}
def gE:Fn:= { aD:=6,vars:=[0,1,2,3,4,5,6,7,8],body:=(q [w 6 (.bx v0 2),w 7 (.al [z0,.nil] []),x 8 (.i 0)] [] (q [h 2 v1,h 2 v6,g v2,g v3,g v4,g v5,u (.ca N.iP 0 [] [.l 5,.l 4,.l 3,.l 2,.l 1,.l 0]),u (.ex l0 0),u (.ex l1 1),u (.st v7 l1 2 []),x 8 l1] [] .ret)),res:=[(7,some (2,true)),(8,none)]}
def yp:C:= (.its [u (.bin .lss v7 v6)] [] 0 .skip (.exit 0) (.seq (.blk 1 (q [a 2 v5 v7,h 2 l0,w 4 (.al [z0,.nil] []),u (.st l0 l1 2 [])] [] (.reg [f 1 v3,g l0,f 0 v4,g l0,f 1 v4,g l0,u (.ca N.ai 1 [] [.l 0]),u (.bd [z0,.nil] [(0,1,.l 3),(1,1,.l 0)]),u (.bs [.l 0] 2),u (.app l7 l0 true 2),f 1 v3,u (.st l0 l1 1 [])] [(1,7),(1,9),(3,7)]))) (.reg [u (.bin .add v7 (.i 1)),x 7 l0] [])))
def zx:C:= .loop true [0,1,4] K.yp
def gF:Fn:= { aD:=1,vars:=[0,1,2,3,5,11,12,13],body:=(q [w 1 (.bx v0 2),w 2 (.al [.nil,.nil] [])] [] (q [f 0 v1,g l0,u (.ca N.ai 1 [] [.l 0]),u (.bd [.nil,.nil] [(0,1,.l 0)]),w 3 (.al [.nil,.nil] [(1,2)]),u (.st l0 l1 2 [(1,2)])] [] (.seq (q [f 1 v1,w 5 (.ld l0 1 false),w 6 (.ln l0),x 7 (.i 0)] [] (.blk 0 K.zx)) (q [h 2 v3,u (.st v2 l0 2 [])] [] .ret)))),res:=[(2,some (2,true))]}
end Go.Ev.K
namespace Go.Ev
class dk [Lib]:Prop where
 uN:Lib.fs N.gM=some K.gM
 sQ:Lib.fs N.i9=some K.i9
 yq:Lib.fs N.jJ=some K.jJ
 yr:Lib.fs N.kz=some K.kz
 ta:Lib.fs N.gE=some K.gE
 tc:Lib.fs N.gF=some K.gF
namespace K
variable [Lib] [dk]
theorem uN:Lib.fs N.gM=some K.gM:=dk.uN
theorem sQ:Lib.fs N.i9=some K.i9:=dk.sQ
theorem yq:Lib.fs N.jJ=some K.jJ:=dk.yq
theorem yr:Lib.fs N.kz=some K.kz:=dk.yr
theorem ta:Lib.fs N.gE=some K.gE:=dk.ta
theorem tc:Lib.fs N.gF=some K.gF:=dk.tc
end K
end Go.Ev
namespace Go.Ev
open Go
variable [Lib] [bO] [bL] [dL] [dm] [hU] [dg] [dn] [eR] [dF] [bY] [b7] [dw] [dk]
end Go.Ev
namespace Go.Ev
open Go
variable [Lib] [bO] [bL] [dL] [dm] [hU] [dg] [dn] [eR] [dF]
end Go.Ev
namespace Go.Ev
open Go
variable [Lib] [bO] [bL] [dL] [dm] [hU] [dg] [dn] [eR] [dF] [bY] [b7]
structure SH(n p:Nat)(l:List Wh):Prop where
 ln:l.length=n
 fr:∀w∈l,w.frm.length=p
theorem WV.sh{m:bq}{first:List Int}{x:World}(h:WV m first x):SH first.length m.aa.length x.whr:=
 ⟨h.wl,fun w hw=>(Jt (h.wv w hw)).1⟩
end Go.Ev
namespace Go.Ev
open Go
variable [Lib] [bO] [bL] [dL] [dm] [hU] [dg] [dn] [eR] [dF] [bY] [b7] [dw] [dk]
theorem Rp.more{H:aq}{id:Nat}{es:List D}{fa fb:Nat→Nat}{out:List World}(hr:Rp H id es fa fb out)(t:aq):Rp (H++t) id es fa fb out:=
 ⟨by rw[wm (Cc hr.arr)];exact hr.arr,hr.len,hr.el,fun j hj=>by rw[wm (Cc (hr.ha j hj))];exact hr.ha j hj,fun j hj=>by rw[wm (Cc (hr.hb j hj))];exact hr.hb j hj,hr.na,hr.nb,hr.nab,hr.nbb⟩
end Go.Ev
namespace Go.Ev
open Go
variable [Lib] [bO] [bL] [dL] [dm] [hU] [dg] [dn] [eR] [dF] [bY] [b7]
end Go.Ev
namespace Go.Ev
open Go
variable [Lib] [bO] [bL] [dg] [dn]
theorem Fl(l:List Spn)(hl:l.length≤4294967296)(f:Nat)(bs:List (List T))(p:Spn→Bool)(h:∀x,x∈l→aL 0 f (.t x.e::gg bs.length) (aY bs)=some (B (p x),aY bs)):
 aL 0 N.aO [.t (.sl (l.map Spn.e)),.fn f (gg bs.length)] (aY bs)=
 some (I (match (List.range l.length).find? (fun j=>p (nth l j))with | some j=>(j:Int) | none=> -1),aY bs):=by
 refine aj K.dC rfl ?_
 have loop:∀a b:D,exS aL K.gu ⟨[.t (.sl (l.map Spn.e)),.fn f (gg bs.length),a,b,I l.length,I 0],aY bs⟩=
  some (match (List.range l.length).find? (fun j=>p (nth l j))with
   | some j=>(.ret,⟨[.t (.sl (l.map Spn.e)),.fn f (gg bs.length),I j,I j,I l.length,I j],aY bs⟩)
   | none=>(.exit 0,⟨[.t (.sl (l.map Spn.e)),.fn f (gg bs.length),.und,.und,I l.length,I l.length],aY bs⟩)):=by
  intro a b
  refine fY (fun j=>⟨[.t (.sl (l.map Spn.e)),.fn f (gg bs.length),.und,.und,I l.length,I j],aY bs⟩) l.length (fun j=>p (nth l j)) _ _ rfl ?_ ?_ ?_ (by simp)
  · intro j hj hp
    have hc:=lO (h _ (aE hj)) rfl
    simp(disch:=omega)only[go_sem,K.b8,↓reduceIte,hc,hp]
  · intro j hj hp
    have hc:=lO (h _ (aE hj)) rfl
    simp(disch:=omega)only[go_sem,K.b8,↓reduceIte,hp,hc]
    simp
  · simp(disch:=omega)only[go_sem,K.b8,↓reduceIte]
 simp(disch:=omega)only[go_sem,K.aO,↓reduceIte,loop]
 cases hf:(List.range l.length).find? (fun j=>p (nth l j))with
 | some j=>simp(disch:=omega)only[go_sem,↓reduceIte]
 | none=>simp(disch:=omega)only[go_sem,↓reduceIte]
theorem Sc{α:Type} [Dat α]{l:List α}{p:α→Bool}:((List.range l.length).find? fun j=>p (nth l j)).isSome=l.any p:=by
 rw[List.isSome_find?,Bool.eq_iff_iff,List.any_eq_true,List.any_eq_true]
 constructor
 · rintro ⟨j,hj,h⟩
   exact⟨_,aE (aLu.1 hj),h⟩
 · rintro ⟨x,hx,h⟩
   obtain⟨j,hj⟩:=aLf.1 hx
   exact⟨j,aLu.2 (aLe.1 hj).1,by rw[gr hj];exact h⟩
theorem AU(l:List Spn)(hl:l.length≤4294967296)(f:Nat)(bs:List (List T))(p:Spn→Bool)(h:∀x,x∈l→aL 0 f (.t x.e::gg bs.length) (aY bs)=some (B (p x),aY bs)):
 aL 0 N.aF [.t (.sl (l.map Spn.e)),.fn f (gg bs.length)] (aY bs)=some (B (l.any p),aY bs):=by
 refine aj K.cZ rfl ?_
 have h:=Fl l hl f bs p h
 have hc:=vB aL bs f _ 0 (.sl (l.map Spn.e)) h rfl
 have e:=Sc (l:=l) (p:=p)
 cases hf:(List.range l.length).find? (fun j=>p (nth l j))with
 | some j=>rw[hf]at e hc;simp(disch:=omega)only[go_sem,K.aF,↓reduceIte,←e,hc]
 | none=>rw[hf]at e hc;simp(disch:=omega)only[go_sem,K.aF,↓reduceIte,←e,hc,Option.isSome_none]
theorem Pp(f:Spn):aL 0 N.cR [.t f.e] []=some (B (!decide f.ok),[]):=by
 refine aj K.pf rfl ?_
 obtain⟨lo,hi⟩:=f
 unfold Spn.ok
 by_cases h1: -1125899906842624≤lo
 · by_cases h2:hi≤1125899906842624
   · by_cases h3:lo≤hi<;>simp(disch:=omega)only[go_sem,K.cR,↓reduceIte,h1,h2,h3,reduceAdd,reduceSub]
   · simp(disch:=omega)only[go_sem,K.cR,↓reduceIte,h1,h2,false_and,and_false,decide_false,reduceAdd,reduceSub]
 · simp(disch:=omega)only[go_sem,K.cR,↓reduceIte,h1,false_and,decide_false,reduceAdd,reduceSub]
theorem Sd{m:bq}(h:m.ok)(fl:List Spn)(hl:fl.length≤1000000):aL 0 N.gV [.t m.e,.t (tS fl)] []=some (B (kY m fl),[]):=by
 refine aj K.sD rfl ?_
 have v:=lV h
 have nr:=h.nr
 have c:aL 0 N.aF [.t (tS fl),.fn N.cR []] []=some (B (fl.any fun f=> !decide f.ok),[]):=AU fl (by omega) N.cR [] (fun f=> !decide f.ok) (fun f _=>Pp f)
 have e:kY m fl=(decide (fl.length=m.roads.length)&& !(fl.any fun f=> !decide f.ok)):=by
  unfold kY
  rw[Bool.and_comm,OJ]
  have:((List.range fl.length).any fun j=> !decide (nth fl j).ok)=fl.any fun f=> !decide f.ok:=Cb fl (fun f=> !decide f.ok)
  rw[this]
 rw[e]
 generalize (fl.any fun f=> !decide f.ok)=r at*
 obtain⟨aa,roads⟩:=m
 simp only at nr
 by_cases cl:fl.length=roads.length
 · cases r<;>simp(disch:=omega)only[go_sem,K.gV,↓reduceIte,v,c,cl,reduceAdd,reduceSub]
 · cases r<;>simp(disch:=omega)only[go_sem,K.gV,↓reduceIte,v,c,cl,reduceAdd,reduceSub]
abbrev tF:Int:=2147483648
def mK(l:List Int)(n:Int)(p q:Nat):List Int×Bool:=if n<0∨tF<nth l p∨tF<nth l p+n∨nth l q≤nth l p+n then(l,false)else(l.set q (nth l p+n),true)
abbrev Mr(m:bq)(fl:List Spn)(n:Nat):D:= .agg [.t (.sl (m.aa.map Place.e)),.t (.sl (m.roads.map Road.e)),.t (tS fl),.ref 0 0 n]
theorem Lf{m:bq}(h:m.ok)(fl:List Spn)(hfl:kY m fl=true)(l:List Int)(hl:l.length≤1000000)(hb:∀x∈l,0≤x∧x≤1099511627776)(r p q:Nat)(hr:r<m.roads.length)(hp:p<l.length)(hq:q<l.length)(back:Bool):
 aL 0 N.bD [Mr m fl l.length,I r,I p,I q,B back] [.arr 1 false 0 ((l.map (T.int .i64)).map .t)]=
  some (B (mK l (iy (nth m.roads r) (nth fl r) back) p q).2,[.arr 1 false 0 (((mK l (iy (nth m.roads r) (nth fl r) back) p q).1.map (T.int .i64)).map .t)]):=by
 refine aj K.lD rfl ?_
 obtain⟨f1,f2⟩:=Jx hfl
 have tr:=L8 h r hr (nth fl r) (f2 r (by omega)) back
 have tb:=L7 (h.rs _ (aE hr)) (f:=nth fl r) back
 have gf:(fl.map Spn.e)[r]?=some (nth fl r).e:=bE _ (by omega)
 have gp:((l.map (T.int .i64)).map D.t)[p]?=some (.t (tI (nth l p))):=Br _ _ hp
 have gq:((l.map (T.int .i64)).map D.t)[q]?=some (.t (tI (nth l q))):=Br _ _ hq
 have bp:=hb _ (aE hp)
 have nr:=h.nr
 have np:=h.np
 unfold mK
 generalize iy (nth m.roads r) (nth fl r) back=n at*
 generalize nth fl r=f at*
 generalize nth l p=x at*
 generalize nth l q=y at*
 obtain⟨flo,fhi⟩:=f
 obtain⟨aa,roads⟩:=m
 simp only[Mr,tF]at*
 by_cases c1:n<0
 · simp(disch:=omega)only[go_sem,K.bD,↓reduceIte,gf,gp,gq,tr,c1,true_or,reduceAdd,reduceSub]
 by_cases c2:tF<x
 · have hs:=c2
   simp(disch:=omega)only[go_sem,K.bD,↓reduceIte,gf,gp,gq,tr,c1,c2,true_or,or_true,false_or,or_false,or_self,hs,reduceAdd,reduceSub,aLt]
 by_cases c3:tF<x+n
 · have hs:=c3
   simp(disch:=omega)only[go_sem,K.bD,↓reduceIte,gf,gp,gq,tr,c1,c2,c3,true_or,or_true,false_or,or_false,or_self,hs,reduceAdd,reduceSub,aLt]
 by_cases c4:y≤x+n
 · have hs:=c4
   simp(disch:=omega)only[go_sem,K.bD,↓reduceIte,gf,gp,gq,tr,c1,c2,c3,c4,true_or,or_true,false_or,or_false,or_self,hs,reduceAdd,reduceSub,aLt]
 · have hs:((l.map (T.int .i64)).map D.t).set q (.t (.int .i64 (x+n)))=((l.set q (x+n)).map (T.int .i64)).map D.t:=by simp
   simp(disch:=omega)only[go_sem,K.bD,↓reduceIte,gf,gp,gq,tr,c1,c2,c3,c4,true_or,or_true,false_or,or_false,or_self,hs,reduceAdd,reduceSub,aLt]
def kL(m:bq)(fl:List Spn)(k:Nat)(back:Bool)(l:List Int):List Int×Bool:=
 mK l (iy (nth m.roads k) (nth fl k) back) ((nth m.roads k).src back).toNat ((nth m.roads k).dst back).toNat
def wF(m:bq)(fl:List Spn)(k:Nat)(s:List Int×Bool):List Int×Bool:=
 ((kL m fl k true (kL m fl k false s.1).1).1,s.2||(kL m fl k false s.1).2||(kL m fl k true (kL m fl k false s.1).1).2)
def fP(m:bq)(fl:List Spn)(l:List Int):Nat→List Int×Bool
 | 0=>(l,false)
 | k+1=>wF m fl k (fP m fl l k)
theorem Ej(l:List Int)(n:Int)(p q:Nat):(mK l n p q).1.length=l.length:=by unfold mK;split<;>simp
theorem Ek{l:List Int}(hb:bnd l){n:Int}{p q:Nat}(hp:p<l.length):bnd (mK l n p q).1:=by
 unfold mK
 split
 · exact hb
 · rename_i c
   intro x hx
   have:=hb _ (aE hp)
   rcases aLk hx with h | h
   · exact hb x h
   · simp only[tF]at c;subst h;omega
abbrev yt(m:bq)(fl:List Spn)(n:Nat):Obj:= .box [.t (.sl (m.aa.map Place.e)),.t (.sl (m.roads.map Road.e)),.t (tS fl),.ref 0 0 n]
theorem XF{m:bq}(h:m.ok)(fl:List Spn)(hfl:kY m fl=true)(l:List Int)(hl:l.length=m.aa.length)(hb:bnd l)(k:Nat)(hk:k<m.roads.length)(ch:Bool):
 kV true [0,3,4,5,6] 2 (exS aL K.ib ⟨[.und,.bp 1 0,B ch,.und,.und,.und,.und,.t (.sl (m.roads.map Road.e)),I m.roads.length,I k],[.arr 1 false 0 ((l.map (T.int .i64)).map .t),yt m fl l.length]⟩)=
  some ⟨[.und,.bp 1 0,B (wF m fl k (l,ch)).2,.und,.und,.und,.und,.t (.sl (m.roads.map Road.e)),I m.roads.length,I (k+1)],[.arr 1 false 0 (((wF m fl k (l,ch)).1.map (T.int .i64)).map .t),yt m fl l.length]⟩:=by
 have np:=h.np
 have nr:=h.nr
 have ok:=h.rs _ (aE hk)
 have f0:=ok.f0;have f1:=ok.f1;have t0:=ok.t0;have t1:=ok.t1
 have g:(m.roads.map Road.e)[k]?=some (nth m.roads k).e:=bE _ hk
 have r1:=Lf h fl hfl l (by omega) hb k (nth m.roads k).frm.toNat (nth m.roads k).to.toNat hk (by omega) (by omega) false
 have hb2:=Ek hb (n:=iy (nth m.roads k) (nth fl k) false) (p:=(nth m.roads k).frm.toNat) (q:=(nth m.roads k).to.toNat) (by omega)
 have ln:=Ej l (iy (nth m.roads k) (nth fl k) false) (nth m.roads k).frm.toNat (nth m.roads k).to.toNat
 have r2:=Lf h fl hfl (mK l (iy (nth m.roads k) (nth fl k) false) (nth m.roads k).frm.toNat (nth m.roads k).to.toNat).1 (by omega) hb2 k (nth m.roads k).to.toNat (nth m.roads k).frm.toNat hk (by omega) (by omega) true
 have e1:((nth m.roads k).frm.toNat:Int)=(nth m.roads k).frm:=by omega
 have e2:((nth m.roads k).to.toNat:Int)=(nth m.roads k).to:=by omega
 rw[e1,e2]at r1 r2
 rw[ln]at r2
 simp only[wF,kL,Road.src,Road.dst,aLt,↓reduceIte]
 generalize mK l (iy (nth m.roads k) (nth fl k) false) (nth m.roads k).frm.toNat (nth m.roads k).to.toNat=a at*
 obtain⟨la,ca⟩:=a
 simp only at*
 generalize mK la (iy (nth m.roads k) (nth fl k) true) (nth m.roads k).to.toNat (nth m.roads k).frm.toNat=b at*
 obtain⟨lb,cb⟩:=b
 generalize nth m.roads k=x at*
 obtain⟨frm,to,len,area,walk,closed,rl,rh,ll,lh⟩:=x
 obtain⟨aa,roads⟩:=m
 simp only[Mr,yt]at*
 cases ch<;>cases ca<;>cases cb<;>simp(disch:=omega)only[go_sem,K.ib,↓reduceIte,g,r1,r2,Bool.or_true,Bool.or_false,Bool.true_or,reduceAdd,reduceSub]
theorem Ms{l:List Int}(hb:bnd l){n:Int}{p q:Nat}(hp:p<l.length)(hq:q<l.length):
 ((mK l n p q).2=true→nD (mK l n p q).1<nD l)∧((mK l n p q).2=false→(mK l n p q).1=l):=by
 unfold mK
 split
 · exact⟨fun h=>by simp at h,fun _=>rfl⟩
 · rename_i c
   refine⟨fun _=>?_,fun h=>by simp at h⟩
   have:=hb _ (aE hp)
   exact Bt hq (by omega) (by omega)
theorem rH(m:bq)(fl:List Spn)(k:Nat)(back:Bool)(l:List Int):(kL m fl k back l).1.length=l.length:=Ej _ _ _ _
theorem dU(m:bq)(fl:List Spn)(l:List Int):∀k,(fP m fl l k).1.length=l.length
 | 0=>rfl
 | k+1=>by simp only[fP,wF,rH,dU m fl l k]
section
variable {m : bq} (h : m.ok) {fl : List Spn}
include h
theorem zy{l:List Int}(hl:l.length=m.aa.length)(hb:bnd l){k:Nat}(hk:k<m.roads.length)(back:Bool):bnd (kL m fl k back l).1:=by
 have r1:=Road.oV (h.rs _ (aE hk)) back
 exact Ek hb (by omega)
theorem zz{l:List Int}(hl:l.length=m.aa.length)(hb:bnd l){k:Nat}(hk:k<m.roads.length)(back:Bool):
 ((kL m fl k back l).2=true→nD (kL m fl k back l).1<nD l)∧((kL m fl k back l).2=false→(kL m fl k back l).1=l):=by
 have r1:=Road.oV (h.rs _ (aE hk)) back
 have r2:=Road.rA (h.rs _ (aE hk)) back
 exact Ms hb (by omega) (by omega)
theorem pq{l:List Int}(hl:l.length=m.aa.length)(hb:bnd l):∀k,k≤m.roads.length→bnd (fP m fl l k).1
 | 0,_=>hb
 | k+1,hk=>by
   have ih:=pq hl hb k (by omega)
   simp only[fP,wF]
   exact zy h (by rw[rH,dU,hl]) (zy h (by rw[dU,hl]) ih (by omega) _) (by omega) _
theorem sR{l:List Int}(hl:l.length=m.aa.length)(hb:bnd l):∀k,k≤m.roads.length→
 ((fP m fl l k).2=true→nD (fP m fl l k).1<nD l)∧((fP m fl l k).2=false→(fP m fl l k).1=l)
 | 0,_=>⟨fun h=>by simp[fP]at h,fun _=>rfl⟩
 | k+1,hk=>by
   obtain⟨i1,i2⟩:=sR hl hb k (by omega)
   have hb1:=pq h (fl:=fl) hl hb k (by omega)
   have hl1:(fP m fl l k).1.length=m.aa.length:=by rw[dU,hl]
   obtain⟨a1,a2⟩:=zz h (fl:=fl) hl1 hb1 (k:=k) (by omega) false
   have hb2:=zy h (fl:=fl) hl1 hb1 (k:=k) (by omega) false
   obtain⟨c1,c2⟩:=zz h (fl:=fl) (by rw[rH,hl1]) hb2 (k:=k) (by omega) true
   simp only[fP,wF]
   generalize fP m fl l k=s at*
   obtain⟨sl,sb⟩:=s
   simp only at*
   generalize kL m fl k false sl=a at*
   obtain⟨al,ab⟩:=a
   simp only at*
   generalize kL m fl k true al=b at*
   obtain⟨bl,bb⟩:=b
   simp only at*
   cases sb<;>cases ab<;>cases bb<;>simp_all<;>omega
end
def kQ(m:bq)(fl:List Spn)(l:List Int):List Int×Bool:=fP m fl l m.roads.length
def spF(m:bq)(fl:List Spn)(l:List Int):List Int:=fw (kQ m fl) (nD l+1) l
theorem Mt{m:bq}(h:m.ok)(fl:List Spn)(hfl:kY m fl=true)(l:List Int)(hl:l.length=m.aa.length)(hb:bnd l):
 aL 0 N.cA [Mr m fl l.length] [.arr 1 false 0 ((l.map (T.int .i64)).map .t)]=some (.tup [],[.arr 1 false 0 (((spF m fl l).map (T.int .i64)).map .t)])∧(spF m fl l).length=m.aa.length∧bnd (spF m fl l):=by
 have nr:=h.nr
 have np:=h.np
 have inner:∀(l:List Int),l.length=m.aa.length→bnd l→∀(z0 z3 z4 z5 z6:D),exS aL K.nI ⟨[z0,.bp 1 0,B false,z3,z4,z5,z6,.t (.sl (m.roads.map Road.e)),I m.roads.length,I 0],[.arr 1 false 0 ((l.map (T.int .i64)).map .t),yt m fl l.length]⟩=
  some (.exit 2,⟨[.und,.bp 1 0,B (kQ m fl l).2,.und,.und,.und,.und,.t (.sl (m.roads.map Road.e)),I m.roads.length,I m.roads.length],[.arr 1 false 0 (((kQ m fl l).1.map (T.int .i64)).map .t),yt m fl l.length]⟩):=by
  intro l hl hb z0 z3 z4 z5 z6
  refine bH (fun j=>⟨[.und,.bp 1 0,B (fP m fl l j).2,.und,.und,.und,.und,.t (.sl (m.roads.map Road.e)),I m.roads.length,I j],[.arr 1 false 0 (((fP m fl l j).1.map (T.int .i64)).map .t),yt m fl l.length]⟩) m.roads.length rfl ?_ ?_ (by simp)
  · intro j hj
    have:=XF h fl hfl (fP m fl l j).1 (by rw[dU,hl]) (pq h hl hb j (by omega)) j hj (fP m fl l j).2
    rw[dU]at this
    exact this
  · simp(disch:=omega)only[go_sem,K.ib,↓reduceIte,kQ,yt,reduceAdd,reduceSub]
 have outer:=fun(z0 z3 z4 z5 z6 z7 z8 z9:D)=>D7 (gc:=true) (dead:=[0,3,4,5,6,7,8,9]) (c:=K.ic) (vs:=[z0,.bp 1 0,B true,z3,z4,z5,z6,z7,z8,z9]) (H:=[.arr 1 false 0 ((l.map (T.int .i64)).map .t),yt m fl l.length])
  (fun l' ag=>⟨[.und,.bp 1 0,B ag,.und,.und,.und,.und,.und,.und,.und],[.arr 1 false 0 ((l'.map (T.int .i64)).map .t),yt m fl l'.length]⟩)
  (fun l'=>(.exit 0,⟨[.und,.bp 1 0,B false,.und,.und,.und,.und,.und,.und,.und],[.arr 1 false 0 ((l'.map (T.int .i64)).map .t),yt m fl l'.length]⟩))
  (kQ m fl) (fun l=>l.length=m.aa.length∧bnd l) nD
  (fun l ⟨hl,hb⟩=>⟨⟨by rw[kQ,dU,hl],pq h hl hb _ (aLs _)⟩,(sR h hl hb _ (aLs _)).1⟩)
  (by
   rintro l ⟨hl,hb⟩
   have hi:=inner l hl hb
   have e:(kQ m fl l).1.length=l.length:=by rw[kQ,dU]
   clear inner
   obtain⟨aa,roads⟩:=m
   simp only[yt]at*
   simp(disch:=omega)only[go_sem,K.ic,↓reduceIte,hi,e,reduceAdd,reduceSub])
  (by
   rintro l ⟨hl,hb⟩
   simp(disch:=omega)only[go_sem,K.ic,↓reduceIte,yt,reduceCtorEq,ne_eq,not_false_eq_true,and_self,reduceAdd,reduceSub])
  l ⟨hl,hb⟩ rfl
 obtain⟨-,o2⟩:=outer .und .und .und .und .und .und .und .und
 refine⟨?_,o2⟩
 refine aj K.kP rfl ?_
 have o1:∀z0 z3 z4 z5 z6 z7 z8 z9:D,exS aL K.nJ ⟨[z0,.bp 1 0,B true,z3,z4,z5,z6,z7,z8,z9],[.arr 1 false 0 ((l.map (T.int .i64)).map .t),yt m fl l.length]⟩=_:=fun z0 z3 z4 z5 z6 z7 z8 z9=>(outer z0 z3 z4 z5 z6 z7 z8 z9).1
 clear outer inner
 have o2:=o2.1
 unfold spF
 generalize fw (kQ m fl) (nD l+1) l=l2 at*
 obtain⟨aa,roads⟩:=m
 simp only[yt,Mr]at*
 simp(disch:=omega)only[go_sem,K.cA,↓reduceIte,o1,reduceAdd,reduceSub]
end Go.Ev
namespace Go.Ev
open Go
theorem vF{α:Type} [Dat α](l:List α)(k:Nat)(hk:k<l.length)(x:α)(j:Nat):nth (l.set k x) j=if j=k then x else nth l j:=by
 unfold nth
 by_cases h:j=k
 · subst h;rw[if_pos rfl];simp[hk]
 · rw[if_neg h]
   have:¬k=j:=fun e=>h e.symm
   simp[List.getElem?_set,this]
theorem vG{α:Type}{f:α→α×Bool}(P:α→Prop)(hP:∀l,P l→P (f l).1):∀n l,P l→P (fw f n l)
 | 0,l,h=>h
 | n+1,l,h=>by
   unfold fw
   split
   · exact vG P hP n _ (hP l h)
   · exact hP l h
theorem vH{α:Type}{f:α→α×Bool}(P:α→Prop)(mes:α→Nat)(hP:∀l,P l→P (f l).1∧((f l).2=true→mes (f l).1<mes l)∧((f l).2=false→(f l).1=l)):∀n l,P l→mes l<n→(f (fw f n l)).2=false∧P (fw f n l)
 | 0,l,_,h=>by omega
 | n+1,l,hp,h=>by
   obtain⟨h1,h2,h3⟩:=hP l hp
   unfold fw
   cases hf:(f l).2 with
   | true=>
     rw[if_pos rfl]
     have:=h2 hf
     exact vH P mes hP n _ h1 (by omega)
   | false=>
     rw[if_neg (by simp),h3 hf]
     exact⟨hf,hp⟩
def clP(m:bq)(fl:List Spn)(y:List Int):Prop:=∀k,k<m.roads.length→∀back,0≤iy (nth m.roads k) (nth fl k) back→
 nth y ((nth m.roads k).src back).toNat+iy (nth m.roads k) (nth fl k) back≤tF→
 nth y ((nth m.roads k).dst back).toNat≤nth y ((nth m.roads k).src back).toNat+iy (nth m.roads k) (nth fl k) back
def clS(m:bq)(fl:List Spn)(y:List Int):Prop:=∀k,k<m.roads.length→∀back,0≤iy (nth m.roads k) (nth fl k) back→
 nth y ((nth m.roads k).dst back).toNat≤nth y ((nth m.roads k).src back).toNat+iy (nth m.roads k) (nth fl k) back
variable [Lib] [bO] [bL] [dg] [dn]
theorem Hm{m:bq}(h:m.ok){fl:List Spn}{y l:List Int}(hy:clP m fl y)(hl:l.length=m.aa.length){k:Nat}(hk:k<m.roads.length)(back:Bool)(hle:∀j,nth y j≤nth l j):∀j,nth y j≤nth (kL m fl k back l).1 j:=by
 have r2:=Road.rA (h.rs _ (aE hk)) back
 intro j
 unfold kL mK
 split
 · exact hle j
 · rename_i c
   have c:=c
   simp only[not_or,Int.not_lt,Int.not_le]at c
   obtain⟨c1,c2,c3,c4⟩:=c
   rw[vF _ _ (by omega)]
   split
   · rename_i e
     have:=hy k hk back (by omega) (by have:=hle ((nth m.roads k).src back).toNat;omega)
     have:=hle ((nth m.roads k).src back).toNat
     rw[e];omega
   · exact hle j
theorem El{m:bq}(h:m.ok){fl:List Spn}{y l:List Int}(hy:clP m fl y)(hl:l.length=m.aa.length)(hle:∀j,nth y j≤nth l j):∀k,k≤m.roads.length→∀j,nth y j≤nth (fP m fl l k).1 j
 | 0,_=>hle
 | k+1,hk=>by
   have ih:=El h hy hl hle k (by omega)
   simp only[fP,wF]
   exact Hm h hy (by rw[rH,dU,hl]) (by omega) true (Hm h hy (by rw[dU,hl]) (by omega) false ih)
theorem adM{m:bq}(h:m.ok){fl:List Spn}{y l:List Int}(hy:clP m fl y)(hl:l.length=m.aa.length)(hle:∀j,nth y j≤nth l j):∀j,nth y j≤nth (spF m fl l) j:=
 (vG (f:=kQ m fl) (fun l=>l.length=m.aa.length∧∀j,nth y j≤nth l j) (fun l hp=>⟨by rw[kQ,dU];exact hp.1,El h hy hp.1 hp.2 _ (aLs _)⟩) _ l ⟨hl,hle⟩).2
theorem Hn{m:bq}{fl:List Spn}{l:List Int}{k:Nat}(back:Bool)(hb:((nth m.roads k).dst back).toNat<l.length):∀j,nth (kL m fl k back l).1 j≤nth l j:=by
 intro j
 unfold kL mK
 split
 · exact Int.le_refl _
 · rename_i c
   simp only[not_or,Int.not_lt,Int.not_le]at c
   rw[vF _ _ hb]
   split
   · rename_i e;rw[e];omega
   · exact Int.le_refl _
theorem Em{m:bq}(h:m.ok){fl:List Spn}{l:List Int}(hl:l.length=m.aa.length)(hb:bnd l):∀k,k≤m.roads.length→(fP m fl l k).2=false→∀i,i<k→∀back,(kL m fl i back l).2=false
 | 0,_,_,i,hi,_=>by omega
 | k+1,hk,hf,i,hi,back=>by
   have e:=(sR h (fl:=fl) hl hb k (by omega)).2
   have ih:=Em h (fl:=fl) hl hb k (by omega)
   simp only[fP,wF,Bool.or_eq_false_iff]at hf
   obtain⟨⟨f1,f2⟩,f3⟩:=hf
   have e:=e f1
   rw[e]at f2 f3
   have e2:=(zz h (fl:=fl) hl hb (k:=k) (by omega) false).2 f2
   rw[e2]at f3
   by_cases c:i<k
   · exact ih f1 i c back
   · have:i=k:=by omega
     subst this
     cases back
     · exact f2
     · exact f3
theorem XG{m:bq}(h:m.ok){fl:List Spn}{l:List Int}(hl:l.length=m.aa.length)(hb:bnd l):clP m fl (spF m fl l)∧(spF m fl l).length=m.aa.length∧bnd (spF m fl l):=by
 obtain⟨h1,h2,h3⟩:=vH (f:=kQ m fl) (fun l=>l.length=m.aa.length∧bnd l) nD (fun l ⟨hl,hb⟩=>⟨⟨by rw[kQ,dU];exact hl,pq h hl hb _ (aLs _)⟩,sR h hl hb _ (aLs _)⟩) (nD l+1) l ⟨hl,hb⟩ (Nat.lt_succ_self _)
 refine⟨fun k hk back hn hm=>?_,h2,h3⟩
 have no:=Em h h2 h3 m.roads.length (aLs _) h1 k hk back
 change (kL m fl k back (spF m fl l)).2=false at no
 unfold kL mK at no
 split at no
 · rename_i c
   have r1:=Road.oV (h.rs _ (aE hk)) back
   have hs:=h3 _ (aE (l:=fw (kQ m fl) (nD l+1) l) (j:=((nth m.roads k).src back).toNat) (by omega))
   change 0≤nth (spF m fl l) _∧nth (spF m fl l) _≤_ at hs
   omega
 · cases no
end Go.Ev
namespace Go.Ev
open Go
variable [Lib] [bO] [bL] [dg] [dn]
def Cs(a l:List Int):Prop:=∀j,nth l j≤tF→nth a j≤nth l j
theorem AE{m:bq}(h:m.ok){fl:List Spn}{a l:List Int}(ha:clP m fl a)(hl:l.length=m.aa.length)(hb:bnd l){k:Nat}(hk:k<m.roads.length)(back:Bool)(hle:Cs a l):Cs a (nK m fl k back l).1:=by
 have r2:=Road.rA (h.rs _ (aE hk)) back
 have r1:=Road.oV (h.rs _ (aE hk)) back
 intro j hj
 simp only[nK,C8]at hj ⊢
 split at hj
 · rename_i c
   rw[if_pos c]
   simp only[E8,decide_eq_true_eq]at c
   rw[vF _ _ (by omega)]at hj ⊢
   split at hj
   · rename_i e
     rw[if_pos e,e]
     have:=hle ((nth m.roads k).src back).toNat (by omega)
     have:=ha k hk back c.1 (by omega)
     omega
   · rename_i e
     rw[if_neg e]
     exact hle j hj
 · rename_i c
   rw[if_neg c]
   exact hle j hj
theorem yu{m:bq}(h:m.ok){fl:List Spn}{a l:List Int}(ha:clP m fl a)(hl:l.length=m.aa.length)(hb:bnd l)(hle:Cs a l):∀k,k≤m.roads.length→Cs a (gX m fl l k).1
 | 0,_=>hle
 | k+1,hk=>by
   have ih:=yu h ha hl hb hle k (by omega)
   have hb1:=ph h (fl:=fl) hl hb k (by omega)
   have hl1:(gX m fl l k).1.length=m.aa.length:=by rw[i7,hl]
   simp only[gX,Ce]
   exact AE h ha (by rw[rC,hl1]) (vC h (fl:=fl) hl1 hb1 (k:=k) (by omega) false) (by omega) true (AE h ha hl1 hb1 (by omega) false ih)
theorem En{m:bq}(h:m.ok){fl:List Spn}{l:List Int}(hl:l.length=m.aa.length)(hb:bnd l):∀k,k≤m.roads.length→(gX m fl l k).2=false→∀i,i<k→∀back,(nK m fl i back l).2=false
 | 0,_,_,i,hi,_=>by omega
 | k+1,hk,hf,i,hi,back=>by
   have e:=(sH h (fl:=fl) hl hb k (by omega)).2
   have ih:=En h (fl:=fl) hl hb k (by omega)
   simp only[gX,Ce,Bool.or_eq_false_iff]at hf
   obtain⟨⟨f1,f2⟩,f3⟩:=hf
   have e:=e f1
   rw[e]at f2 f3
   have e2:=(zr h (fl:=fl) hl hb (k:=k) (by omega) false).2 f2
   rw[e2]at f3
   by_cases c:i<k
   · exact ih f1 i c back
   · have:i=k:=by omega
     subst this
     cases back
     · exact f2
     · exact f3
theorem Pq{m:bq}(h:m.ok){fl:List Spn}{a l:List Int}(ha:clP m fl a)(hl:l.length=m.aa.length)(hb:bnd l)(hle:Cs a l):
 clS m fl (fw (ku m fl) (nD l+1) l)∧Cs a (fw (ku m fl) (nD l+1) l)∧(fw (ku m fl) (nD l+1) l).length=m.aa.length∧bnd (fw (ku m fl) (nD l+1) l):=by
 obtain⟨h1,⟨h2,h3⟩,h4⟩:=vH (f:=ku m fl) (fun l=>(l.length=m.aa.length∧bnd l)∧Cs a l) nD (fun l ⟨⟨hl,hb⟩,hle⟩=>⟨⟨⟨by rw[ku,i7];exact hl,ph h hl hb _ (aLs _)⟩,yu h ha hl hb hle _ (aLs _)⟩,sH h hl hb _ (aLs _)⟩) (nD l+1) l ⟨⟨hl,hb⟩,hle⟩ (Nat.lt_succ_self _)
 refine⟨fun k hk back hn=>?_,h4,h2,h3⟩
 have no:=En h h2 h3 m.roads.length (aLs _) h1 k hk back
 simp only[nK,E8,decide_eq_false_iff_not]at no
 omega
theorem Ho(l:List Int):∀k j,k≤l.length→nth (RR l k) j=if j<k∧tF<nth l j then 1099511627776 else nth l j
 | 0,j,_=>by simp[RR]
 | k+1,j,hk=>by
   have ih:=Ho l k
   have e:=ih k (by omega)
   rw[if_neg (by omega)]at e
   have ij:=ih j (by omega)
   simp only[RR]
   rw[e]
   by_cases c:2147483648<nth l k
   · rw[if_pos c,vF _ _ (by rw[E9];omega),ij]
     by_cases hj:j=k
     · subst hj;rw[if_pos rfl,if_pos ⟨by omega,c⟩]
     · rw[if_neg hj]
       by_cases c2:j<k∧tF<nth l j
       · rw[if_pos c2,if_pos ⟨by omega,c2.2⟩]
       · rw[if_neg c2,if_neg (fun h=>c2 ⟨by omega,h.2⟩)]
   · rw[if_neg c,ij]
     by_cases c2:j<k∧tF<nth l j
     · rw[if_pos c2,if_pos ⟨by omega,c2.2⟩]
     · rw[if_neg c2,if_neg (fun h=>c2 ⟨by
        have:j≠k:=fun e=>by subst e;exact c h.2
        omega,h.2⟩)]
theorem adN{m:bq}(h:m.ok){fl:List Spn}{l:List Int}(hl:l.length=m.aa.length):∀j,nth (spF m fl l) j≤nth l j:=by
 have steps:∀(l:List Int),l.length=m.aa.length→∀k,k≤m.roads.length→∀j,nth (fP m fl l k).1 j≤nth l j:=by
  intro l hl k
  induction k with
  | zero=>intro _ j;exact Int.le_refl _
  | succ k ih=>
    intro hk j
    have r1:=Road.rA (h.rs _ (aE (l:=m.roads) (j:=k) (by omega))) false
    have r2:=Road.rA (h.rs _ (aE (l:=m.roads) (j:=k) (by omega))) true
    simp only[fP,wF]
    have a:=Hn (m:=m) (fl:=fl) (l:=(kL m fl k false (fP m fl l k).1).1) (k:=k) true (by rw[rH,dU];omega) j
    have b:=Hn (m:=m) (fl:=fl) (l:=(fP m fl l k).1) (k:=k) false (by rw[dU];omega) j
    have c:=ih (by omega) j
    omega
 exact(vG (f:=kQ m fl) (fun l'=>l'.length=m.aa.length∧∀j,nth l' j≤nth l j) (fun l' hp=>⟨by rw[kQ,dU];exact hp.1,fun j=>Int.le_trans (steps l' hp.1 _ (aLs _) j) (hp.2 j)⟩) _ l ⟨hl,fun j=>Int.le_refl _⟩).2
theorem Lg{α:Type} [Dat α]{a b:List α}(h:a.length=b.length)(e:∀j,j<a.length→nth a j=nth b j):a=b:=by
 apply List.ext_getElem h
 intro j h1 h2
 have:=e j h1
 rwa [gr (aLc h1),gr (aLc h2)]at this
theorem Hp{m:bq}{fl:List Spn}{l:List Int}{k:Nat}(back:Bool)(hb:((nth m.roads k).dst back).toNat<l.length):∀j,nth (nK m fl k back l).1 j≤nth l j:=by
 intro j
 simp only[nK,C8]
 split
 · rename_i c
   simp only[E8,decide_eq_true_eq]at c
   rw[vF _ _ hb]
   split
   · rename_i e;rw[e];omega
   · exact Int.le_refl _
 · exact Int.le_refl _
theorem Eo{m:bq}(h:m.ok){fl:List Spn}{l:List Int}(hl:l.length=m.aa.length):∀k,k≤m.roads.length→∀j,nth (gX m fl l k).1 j≤nth l j
 | 0,_,j=>Int.le_refl _
 | k+1,hk,j=>by
   have r1:=Road.rA (h.rs _ (aE (l:=m.roads) (j:=k) (by omega))) false
   have r2:=Road.rA (h.rs _ (aE (l:=m.roads) (j:=k) (by omega))) true
   simp only[gX,Ce]
   have a:=Hp (m:=m) (fl:=fl) (l:=(nK m fl k false (gX m fl l k).1).1) (k:=k) true (by rw[rC,i7];omega) j
   have b:=Hp (m:=m) (fl:=fl) (l:=(gX m fl l k).1) (k:=k) false (by rw[i7];omega) j
   have c:=Eo h (fl:=fl) hl k (by omega) j
   omega
theorem adO{m:bq}(h:m.ok){fl:List Spn}{l:List Int}(hl:l.length=m.aa.length):∀j,nth (fw (ku m fl) (nD l+1) l) j≤nth l j:=
 (vG (f:=ku m fl) (fun l'=>l'.length=m.aa.length∧∀j,nth l' j≤nth l j) (fun l' hp=>⟨by rw[ku,i7];exact hp.1,fun j=>Int.le_trans (Eo h hp.1 _ (aLs _) j) (hp.2 j)⟩) _ l ⟨hl,fun j=>Int.le_refl _⟩).2
def adP(l:List Int):Prop:=∀x∈l,0≤x∧(x≤tF∨x=1099511627776)
theorem adP.bnd{l:List Int}(h:adP l):bnd l:=fun x hx=>by have:=h x hx;simp only[tF]at this;omega
theorem Mu{m:bq}{fl:List Spn}{l:List Int}(hl:(fw (ku m fl) (nD l+1) l).length=m.aa.length){j:Nat}(hj:j<m.aa.length):
 nth (wu m fl l) j=if tF<nth (fw (ku m fl) (nD l+1) l) j then 1099511627776 else nth (fw (ku m fl) (nD l+1) l) j:=by
 unfold wu
 rw[Ho _ _ _ (by omega)]
 by_cases c:tF<nth (fw (ku m fl) (nD l+1) l) j
 · rw[if_pos ⟨hj,c⟩,if_pos c]
 · rw[if_neg (fun x=>c x.2),if_neg c]
theorem Ct{m:bq}(h:m.ok){fl:List Spn}{l:List Int}(hl:l.length=m.aa.length)(hb:bnd l):(wu m fl l).length=m.aa.length:=by
 unfold wu;rw[E9]
 exact(vH (f:=ku m fl) (fun l=>l.length=m.aa.length∧Go.Ev.bnd l) nD (fun l ⟨hl,hb⟩=>⟨⟨by rw[ku,i7];exact hl,ph h hl hb _ (aLs _)⟩,sH h hl hb _ (aLs _)⟩) (nD l+1) l ⟨hl,hb⟩ (Nat.lt_succ_self _)).2.1
theorem Mv{m:bq}(h:m.ok){fl:List Spn}{l:List Int}(hl:l.length=m.aa.length)(ht:adP l):spF m fl l=wu m fl l:=by
 have hb:=ht.bnd
 obtain⟨a1,a2,a3⟩:=XG h (fl:=fl) hl hb
 have a4:=adN h (fl:=fl) hl
 obtain⟨d1,d2,d3,d4⟩:=Pq h (fl:=fl) a1 hl hb (fun j _=>a4 j)
 have d5:=adO h (fl:=fl) hl
 have cn:=fun{j:Nat} (hj:j<m.aa.length)=>Mu (m:=m) (fl:=fl) (l:=l) d3 hj
 have cl:=Ct h (fl:=fl) hl hb
 generalize fw (ku m fl) (nD l+1) l=D at*
 apply Lg (by omega)
 intro j hj
 have hj:j<m.aa.length:=by omega
 apply Int.le_antisymm
 · rw[cn hj]
   split
   · have:=a3 _ (aE (l:=spF m fl l) (j:=j) (by omega));omega
   · exact d2 j (by omega)
 · refine adM h (y:=wu m fl l) ?_ hl ?_ j
   · intro k hk back hn hm
     have r1:=Road.oV (h.rs _ (aE hk)) back
     have r2:=Road.rA (h.rs _ (aE hk)) back
     have x:=d1 k hk back hn
     rw[cn (by omega)]at hm ⊢
     rw[cn (by omega)]
     simp only[tF]at*
     split at hm
     · omega
     · rename_i c
       rw[if_neg c,if_neg (by omega)]
       omega
   · intro i
     by_cases hi:i<m.aa.length
     · rw[cn hi]
       have:=ht _ (aE (l:=l) (j:=i) (by omega))
       have:=d5 i
       split<;>omega
     · have e1:nth (wu m fl l) i=0:=by unfold nth;rw[aLl,aLm (by omega)];rfl
       have e2:nth l i=0:=by unfold nth;rw[aLl,aLm (by omega)];rfl
       rw[e1,e2];exact Int.le_refl _
end Go.Ev
namespace Go.Ev
open Go
variable [Lib] [bO] [bL] [dL] [dm] [dg] [dn]
def stN(l:List Int)(t:Int)(n:Nat):Nat→List Int
 | 0=>List.replicate n 1099511627776
 | j+1=>(stN l t n j).set (nth l j).toNat t
theorem Cu(l:List Int)(t:Int)(n:Nat):∀j,(stN l t n j).length=n
 | 0=>List.length_replicate
 | j+1=>by simp only[stN,List.length_set,Cu l t n j]
theorem XH(n:Nat)(v:Int):List.replicate n (I v)=((List.replicate n v).map (T.int .i64)).map D.t:=by simp
theorem Pr(l:List Int)(t:Int)(n:Nat)(hl:∀x∈l,0≤x∧x<n):∀j,j≤l.length→∀i,i<n→nth (stN l t n j) i=if(i:Int)∈l.take j then t else 1099511627776
 | 0,_,i,hi=>by
   rw[stN,List.take_zero,if_neg (by simp)]
   exact gr (by simp[hi])
 | j+1,hj,i,hi=>by
   have ih:=Pr l t n hl j (by omega) i hi
   have b:=hl _ (aE (l:=l) (j:=j) (by omega))
   rw[stN,vF _ _ (by rw[Cu];omega),ih,jd (by omega)]
   by_cases e:i=(nth l j).toNat
   · rw[if_pos e,if_pos (by simp;right;omega)]
   · rw[if_neg e]
     by_cases m:(i:Int)∈l.take j
     · rw[if_pos m,if_pos (by simp[m])]
     · rw[if_neg m,if_neg (by simp[m];omega)]
theorem Se{l:List Int}(t:Int){n:Nat}(hl:∀x∈l,0≤x∧x<n):stN l t n l.length=AS l t n:=by
 apply Lg (by rw[Cu,yb])
 intro j hj
 rw[Cu]at hj
 rw[Pr l t n hl _ (aLs _) j hj,List.take_length]
 exact(gr (by simp[AS,hj])).symm
theorem Lh{l:List Int}{n:Int}(h:lQ l n=true):∀x∈l,0≤x∧x<n:=by
 intro x hx
 simp only[lQ,aLx,aLu,decide_eq_true_eq]at h
 obtain⟨j,hj⟩:=aLf.1 hx
 have:=h j (aLe.1 hj).1
 rw[gr hj]at this
 exact⟨this.1,this.2.1⟩
theorem Sf(l:List Int){t:Int}(ht:inT t)(n:Nat):adP (AS l t n):=by
 intro x hx
 simp only[AS,List.mem_map]at hx
 obtain⟨p, -,rfl⟩:=hx
 unfold inT at ht
 simp only[tF]
 split<;>omega
theorem Fm{m:bq}(h:m.ok)(h1:1≤m.aa.length)(fl:List Spn)(hfl:fl.length≤1000000)(l:List Int)(hl:l.length≤1000000)(t:Int):
 aL 0 N.fk [.t m.e,.t (tS fl),.t (tL l),I t] []=some (.tup [.t (Cf m fl l t).1.e,I (Cf m fl l t).2],[]):=by
 refine aj K.sC rfl ?_
 have np:=h.np
 have nr:=h.nr
 have f:=Sd h fl hfl
 have s:=mF l 0 (m.aa.length-1) (by omega)
 rw[zv]at s
 have ii:=oa t 0 2147483648
 unfold Cf
 cases hf:kY m fl with
 | false=>
   rw[hf]at f
   obtain⟨aa,roads⟩:=m
   simp only at*
   simp(disch:=omega)only[go_sem,K.fk,↓reduceIte,f,reduceAdd,reduceSub]
   rfl
 | true=>
   rw[hf]at f
   cases hs:lQ l m.aa.length with
   | false=>
     rw[hs]at s
     obtain⟨aa,roads⟩:=m
     simp only at*
     simp(disch:=omega)only[go_sem,K.fk,↓reduceIte,f,s,Bool.true_eq_false,reduceAdd,reduceSub]
     rfl
   | true=>
     rw[hs]at s
     by_cases ht:0≤t∧t≤2147483648
     · have hin:inT t:=ht
       simp only[ht,and_self,decide_true]at ii
       have mem:=Lh hs
       have rp:=Cd 1099511627776 m.aa.length h1 (by omega)
       simp only[tL,List.map_cons,List.map_nil]at rp
       have sl:=Cu l t m.aa.length
       have se:=Se t mem
       have l1:∀z0 z2 z6 z8:D,exS aL K.wq ⟨[z0,.t (tS fl),z2,I t,.bp 0 0,.bp 1 0,z6,.ref 2 0 m.aa.length,z8,.t (tL l),I l.length,I 0],[.box (ae m),.box [I 0,.nil],.arr 1 false 0 (((stN l t m.aa.length 0).map (T.int .i64)).map .t)]⟩=
        some (.exit 1,⟨[.und,.t (tS fl),.und,I t,.bp 0 0,.bp 1 0,.und,.ref 2 0 m.aa.length,.und,.t (tL l),I l.length,I l.length],[.box (ae m),.box [I 0,.nil],.arr 1 false 0 (((stN l t m.aa.length l.length).map (T.int .i64)).map .t)]⟩):=by
        intro z0 z2 z6 z8
        refine bH (fun j=>⟨[.und,.t (tS fl),.und,I t,.bp 0 0,.bp 1 0,.und,.ref 2 0 m.aa.length,.und,.t (tL l),I l.length,I j],[.box (ae m),.box [I 0,.nil],.arr 1 false 0 (((stN l t m.aa.length j).map (T.int .i64)).map .t)]⟩) l.length rfl ?_ ?_ (by simp)
        · intro j hj
          have lj:=sl j
          have b:=mem _ (aE hj)
          simp(disch:=omega)only[go_sem,K.pd,↓reduceIte,stN,reduceAdd,reduceSub]
        · simp(disch:=omega)only[go_sem,K.pd,↓reduceIte,reduceAdd,reduceSub]
       rw[se]at l1
       have sp:=(Mt h fl hf (AS l t m.aa.length) (yb ..) (G5 l hin _)).1
       have eq:=Mv h (fl:=fl) (yb l t m.aa.length) (Sf l hin m.aa.length)
       have ln:=yb l t m.aa.length
       have lc:=Ct h (fl:=fl) ln (G5 l hin _)
       rw[eq,ln]at sp
       simp only[stN]at l1
       generalize wu m fl (AS l t m.aa.length)=cs at*
       generalize AS l t m.aa.length=is at*
       clear sl se eq mem
       obtain⟨aa,roads⟩:=m
       simp only[ae,Mr]at*
       simp(disch:=omega)only[go_sem,K.fk,↓reduceIte,f,s,ii,rp,XH,l1,sp,hin,lc,ln,Bool.true_eq_false,not_true_eq_false,reduceAdd,reduceSub]
     · have hin:¬inT t:=ht
       simp only[ht,decide_false]at ii
       obtain⟨aa,roads⟩:=m
       simp only at*
       simp(disch:=omega)only[go_sem,K.fk,↓reduceIte,f,s,ii,hin,Bool.true_eq_false,not_false_eq_true,reduceAdd,reduceSub]
       rfl
structure adQ(m:bq)(fl:List Spn)(s:Wh):Prop where
 ln:s.frm.length=m.aa.length
 ti:inT s.time
 tm:adP s.frm
 lo:∀x∈s.frm,s.time≤x
 cl:clP m fl s.frm
theorem adQ.valid{m:bq}{fl:List Spn}{s:Wh}(h:adQ m fl s):OX m s=true:=by
 simp only[OX,aLr,decide_eq_true_eq,aLx,aLu]
 refine⟨fun j hj=>?_,h.ln,h.ti⟩
 have a:=h.tm _ (aE hj)
 have b:=h.lo _ (aE hj)
 unfold plS
 simp only[tF]at a
 omega
theorem Sg(s:Wh)(hl:s.frm.length≤1000000):aL 0 N.jm [.t s.e,.t s.e] []=some (B true,[]):=by
 refine aj K.ux rfl ?_
 have e:=kt s.frm s.frm (by omega)
 rw[decide_eq_true rfl]at e
 obtain⟨time,frm⟩:=s
 simp only at e hl
 simp(disch:=omega)only[go_sem,K.jm,↓reduceIte,e,reduceAdd,reduceSub]
end Go.Ev
namespace Go.Ev
open Go
variable [Lib] [bO] [bL] [dL] [dm] [hU] [dg] [dn] [eR] [dF] [bY] [b7]
section
variable {m : bq} (hm : m.ok) (l : List Mch) (hl : l.length ≤ 1000) (hp : ∀ x ∈ l, x.pl.length ≤ 1000000) (s : Wh) (hs : s.frm.length ≤ 1000000) (b : Bel) (hb : b.sz) (t a : Int)
include hm hl hp hs hb
end
end Go.Ev
namespace Go.Ev
open Go
variable [Lib] [bO] [bL] [dL] [dm] [dg] [dn]
end Go.Ev
namespace Go.Ev
open Go
variable [Lib] [bO] [bL]
def sh(s x:Int):Int:=if x<1099511627776 then x+s else x
def shL(s:Int)(l:List Int):List Int:=l.map (sh s)
@[simp] theorem ajx (s : Int) (l : List Int) : (shL s l).length = l.length := List.length_map ..
end Go.Ev
namespace Go.Ev
open Go
variable [Lib] [bO] [bL] [dL] [dm] [hU] [dg] [dn] [eR] [dF]
theorem Cv(l:List Int)(x:Int){j:Nat}(hj:j<l.length):nth (l++[x]) j=nth l j:=by
 unfold nth;simp[aLl,aLg hj]
theorem Ps(l:List Int)(x:Int):nth (l++[x]) l.length=x:=by
 unfold nth;simp[aLl]
theorem Pt{l:List Int}{n:Nat}(h:lQ l n=true):lQ l ((n+1:Nat):Int)=true∧lQ (l++[(n:Int)]) ((n+1:Nat):Int)=true:=by
 simp only[lQ,aLx,aLu,decide_eq_true_eq]at h ⊢
 refine⟨fun j hj=>?_,fun j hj=>?_⟩
 · obtain⟨a,b,c⟩:=h j hj;exact⟨a,by omega,c⟩
 · by_cases c:j<l.length
   · obtain⟨a,b,c⟩:=h j c
     rw[Cv _ _ (by omega)]
     refine⟨a,by omega,fun hj=>?_⟩
     rw[Cv _ _ (by omega)];exact c hj
   · have e:j=l.length:=by simp at hj;omega
     subst e
     rw[Ps]
     refine⟨by omega,by omega,fun hj=>?_⟩
     rw[Cv _ _ (by omega)]
     exact(h (l.length-1) (by omega)).2.1
theorem Ep(d:aT):∀n:Nat,lQ (d.o8 n).1 n=true
 | 0=>rfl
 | n+1=>by
   have ih:=Ep d n
   have:=Pt ih
   simp only[aT.o8]
   split
   · exact this.2
   · exact this.1
end Go.Ev
namespace Go.Ev
open Go
variable [Lib] [bO] [bL] [dL] [dm] [hU] [dg] [dn] [eR] [dF] [bY] [b7]
end Go.Ev
namespace Go.Ev
open Go
variable [Lib] [bO] [bL] [dL] [dm] [hU] [dg] [dn] [eR] [dF] [bY] [b7] [dw] [dk]
abbrev ssH(m:bq)(tags:List Int)(ws:List Wh):aq:=[.box (ae m),.box [.nil],.box [.t (tL tags),.ref 4 0 ws.length],.arr 2 false 0 [],.arr 2 false 0 ((ws.map Wh.e).map .t)]
theorem Pu{m:bq}(h:m.ok)(h1:1≤m.aa.length)(tags bh:List Int)(hl:tags.length≤1000000)(t:Int):
 aL 0 N.eG [.t m.e,.t (tL tags),.t (tL bh),I t] []=some (.tup [.t (kH m tags bh t).1.e,I (kH m tags bh t).2],[]):=by
 refine aj K.sP rfl ?_
 have va:=lV h
 have tg:=Po tags hl
 have li:=oa (tags.length:Int) 1 12
 have cl:=cT tags hl
 unfold kH
 by_cases c1:tags.length=bh.length
 · have e:=c1.symm
   by_cases c2:1≤tags.length∧tags.length≤12
   · rw[decide_eq_true (by omega)]at li
     rw[if_pos ⟨c1,c2⟩]
     cases hp:fJ tags with
     | false=>
       rw[hp]at tg
       obtain⟨aa,roads⟩:=m
       simp only at*
       simp(disch:=omega)only[go_sem,K.eG,↓reduceIte,va,tg,li,e,aLt,reduceAdd,reduceSub]
       rfl
     | true=>
       rw[hp]at tg
       have loop:∀z0 z1 z2 z6 z8 z9 z10:D,exS aL K.wC ⟨[z0,z1,z2,I t,.bp 0 0,.bp 1 0,z6,.bp 2 0,z8,z9,z10,.t (tL bh),I tags.length,I 0],ssH m tags []⟩=
        some (match (List.range tags.length).find? (fun i=> !decide ((fG m (nth bh i) t).2=0))with
         | some i=>(.ret,⟨[.und,.und,.und,I t,.bp 0 0,.bp 1 0,I (fG m (nth bh i) t).2,.bp 2 0,I (nth bh i),.bp 5 0,I (fG m (nth bh i) t).2,.t (tL bh),I tags.length,I i],ssH m tags (fO m bh t i)++[.box [I (fG m (nth bh i) t).1.time,.t (tL (fG m (nth bh i) t).1.frm)]]⟩)
         | none=>(.exit 1,⟨[.und,.und,.und,I t,.bp 0 0,.bp 1 0,.und,.bp 2 0,.und,.und,.und,.t (tL bh),I tags.length,I tags.length],ssH m tags (fO m bh t tags.length)⟩)):=by
        intro z0 z1 z2 z6 z8 z9 z10
        refine fY (fun j=>⟨[.und,.und,.und,I t,.bp 0 0,.bp 1 0,.und,.bp 2 0,.und,.und,.und,.t (tL bh),I tags.length,I j],ssH m tags (fO m bh t j)⟩) tags.length _ _ _ rfl ?_ ?_ ?_ (by simp)
        · intro j hj hp
          have st:=Hf h h1 (nth bh j) t
          have ln:=jL m bh t j
          have hp:(fG m (nth bh j) t).2=0:=by simpa using hp
          rw[AD]
          generalize fO m bh t j=L at*
          generalize fG m (nth bh j) t=r at*
          obtain⟨⟨time,frm⟩,e⟩:=r
          obtain⟨aa,roads⟩:=m
          simp only[ae]at st hp ⊢
          subst hp
          simp(disch:=omega)only[go_sem,K.mJ,↓reduceIte,ssH,st,reduceAdd,reduceSub]
        · intro j hj hp
          have st:=Hf h h1 (nth bh j) t
          have ln:=jL m bh t j
          have hp:(fG m (nth bh j) t).2≠0:=by simpa using hp
          generalize fO m bh t j=L at*
          generalize fG m (nth bh j) t=r at*
          obtain⟨⟨time,frm⟩,e⟩:=r
          obtain⟨aa,roads⟩:=m
          simp only[ae]at st hp ⊢
          refine⟨?_,by simp⟩
          simp(disch:=omega)only[go_sem,K.mJ,↓reduceIte,ssH,st,reduceAdd,reduceSub]
        · have ln:=jL m bh t tags.length
          generalize fO m bh t tags.length=L at*
          simp(disch:=omega)only[go_sem,K.mJ,↓reduceIte,ssH,reduceAdd,reduceSub]
       simp only[ssH,List.map_nil,List.length_nil]at loop
       cases hf:(List.range tags.length).find? (fun i=> !decide ((fG m (nth bh i) t).2=0))with
       | some i=>
         simp only[hf]at loop
         dsimp only
         generalize fG m (nth bh i) t=r at*
         obtain⟨⟨time,frm⟩,e6⟩:=r
         generalize fO m bh t i=L at*
         obtain⟨aa,roads⟩:=m
         simp only[ae]at*
         simp(disch:=omega)only[go_sem,K.eG,↓reduceIte,va,tg,li,cl,loop,e,reduceAdd,reduceSub]
         rfl
       | none=>
         simp only[hf]at loop
         have ln:=jL m bh t tags.length
         generalize fO m bh t tags.length=L at*
         obtain⟨aa,roads⟩:=m
         simp only[ae]at*
         simp(disch:=omega)only[go_sem,K.eG,↓reduceIte,va,tg,li,cl,loop,e,reduceAdd,reduceSub]
         rfl
   · rw[decide_eq_false (by omega)]at li
     rw[if_neg (fun x=>c2 ⟨x.2.1,x.2.2⟩)]
     obtain⟨aa,roads⟩:=m
     simp only at*
     simp(disch:=omega)only[go_sem,K.eG,↓reduceIte,va,li,e,reduceAdd,reduceSub]
     rfl
 · rw[if_neg (fun x=>c1 x.1)]
   obtain⟨aa,roads⟩:=m
   simp only at*
   simp(disch:=omega)only[go_sem,K.eG,↓reduceIte,va,li,c1,reduceAdd,reduceSub]
   rfl
theorem Si(ws:List World)(tags:List Int)(whr:List Wh)(hl:whr.length≤1000000)(hz:∀w∈whr,w.frm.length≤1000000)(k:Int):
 exS aL K.yn ⟨[.und,.und,.bp 0 0,.bp 1 0,.und,I k,.bp 2 0,.bp 3 0,I 0],[.box [.t (.sl (ws.map World.e))],.box [.t (.sl (ws.map World.e))],.box [.t (tL tags),.t (.sl (whr.map Wh.e))],.box [.t (tL tags),.t (.sl (whr.map Wh.e))]]⟩=
  some (.exit 2,⟨[.und,.und,.bp 0 0,.bp 1 0,.und,I k,.bp 2 0,.bp 3 0,I whr.length],[.box [.t (.sl (ws.map World.e))],.box [.t (.sl (ws.map World.e))],.box [.t (tL tags),.t (.sl (whr.map Wh.e))],.box [.t (tL tags),.t (.sl (whr.map Wh.e))]]⟩):=by
 refine bH (fun j=>⟨[.und,.und,.bp 0 0,.bp 1 0,.und,I k,.bp 2 0,.bp 3 0,I j],[.box [.t (.sl (ws.map World.e))],.box [.t (.sl (ws.map World.e))],.box [.t (tL tags),.t (.sl (whr.map Wh.e))],.box [.t (tL tags),.t (.sl (whr.map Wh.e))]]⟩) whr.length rfl ?_ ?_ (by simp)
 · intro j hj
   have ex:(whr.map Wh.e)[j]?=some (nth whr j).e:=bE _ hj
   have sm:=O7 (nth whr j) (nth whr j) (hz _ (aE hj))
   rw[decide_eq_true ⟨rfl,rfl⟩]at sm
   clear hz
   generalize nth whr j=x at*
   obtain⟨t,f⟩:=x
   simp(disch:=omega)only[go_sem,K.qI,↓reduceIte,ex,sm,reduceAdd,reduceSub]
 · simp(disch:=omega)only[go_sem,K.qI,↓reduceIte,reduceAdd,reduceSub]
theorem Li(b:Bel)(hs:b.sz):aL 0 N.gM [.t b.e,.t b.e] []=some (B true,[]):=by
 refine aj K.uN rfl ?_
 obtain⟨ws⟩:=b
 obtain⟨s1,s2⟩:=hs
 simp only at*
 have loop:∀z0 z1 z4 z6 z7 z8:D,exS aL K.yo ⟨[z0,z1,.bp 0 0,.bp 1 0,z4,I 0,z6,z7,z8],[.box [.t (.sl (ws.map World.e))],.box [.t (.sl (ws.map World.e))]]⟩=
  some (.exit 0,⟨[.und,.und,.bp 0 0,.bp 1 0,.und,I ws.length,.und,.und,.und],[.box [.t (.sl (ws.map World.e))],.box [.t (.sl (ws.map World.e))]]⟩):=by
  intro z0 z1 z4 z6 z7 z8
  refine bH (fun j=>⟨[.und,.und,.bp 0 0,.bp 1 0,.und,I j,.und,.und,.und],[.box [.t (.sl (ws.map World.e))],.box [.t (.sl (ws.map World.e))]]⟩) ws.length rfl ?_ ?_ (by simp)
  · intro j hj
    have ex:(ws.map World.e)[j]?=some (nth ws j).e:=bE _ hj
    have z:=s2 _ (aE hj)
    have sm:=kt (nth ws j).tags (nth ws j).tags (by have:=z.1;omega)
    rw[decide_eq_true rfl]at sm
    have inn:=Si ws (nth ws j).tags (nth ws j).whr (by have:=z.2.1;omega) z.2.2 j
    clear s2 z
    generalize nth ws j=x at*
    obtain⟨tags,whr⟩:=x
    simp only at*
    simp(disch:=omega)only[go_sem,K.qJ,↓reduceIte,ex,sm,inn,reduceAdd,reduceSub]
  · simp(disch:=omega)only[go_sem,K.qJ,↓reduceIte,reduceAdd,reduceSub]
 simp(disch:=omega)only[go_sem,K.gM,↓reduceIte,loop,reduceAdd,reduceSub]
end Go.Ev
namespace Go.Ev
open Go
variable [Lib] [bO] [bL] [dL] [dm]
def pT(m:bq)(area:List Int)(r:Nat):Bool:= !(nth m.roads r).closed&&(decide (0≤jk m r false 6 9 12)||decide (0≤jk m r true 6 9 12))&&(decide ((nth m.roads r).frm∈area) != decide ((nth m.roads r).to∈area))
def Cw(m:bq)(area:List Int):List Int:=kJ m.roads.length (pT m area)
theorem rI{m:bq}(h:m.ok)(area:List Int)(ha:area.length≤1000000):aL 0 N.gD [.t m.e,.t (tL area)] []=some (.t (tL (Cw m area)),[]):=by
 refine aj K.qE rfl ?_
 have nr:=h.nr
 have loop:∀a b c d:D,exS aL K.uE ⟨[a,.t (tL area),.bp 0 0,b,.ref 1 0 0,I 0,c,d],[.box (ae m),.arr 1 false 0 []]⟩=
  some (.exit 0,⟨[.und,.t (tL area),.bp 0 0,.und,.ref 1 0 (Cw m area).length,I m.roads.length,.und,.und],[.box (ae m),.arr 1 false 0 (((Cw m area).map (T.int .i64)).map .t)]⟩):=by
  intro a b c d
  refine bH (fun r=>⟨[.und,.t (tL area),.bp 0 0,.und,.ref 1 0 (kJ r (pT m area)).length,I r,.und,.und],[.box (ae m),.arr 1 false 0 (((kJ r (pT m area)).map (T.int .i64)).map .t)]⟩) m.roads.length rfl ?_ ?_ (by simp)
  · intro r hr
    have g:(m.roads.map Road.e)[r]?=some (nth m.roads r).e:=bE _ hr
    have t1:=E3 h r hr false
    have t2:=E3 h r hr true
    have h1:=D9 area (nth m.roads r).frm (by omega)
    have h2:=D9 area (nth m.roads r).to (by omega)
    have ws:=Jo r (pT m area)
    have wl:=zl r (pT m area)
    have hb:pT m area r=(!(nth m.roads r).closed&&(decide (0≤jk m r false 6 9 12)||decide (0≤jk m r true 6 9 12))&&(decide ((nth m.roads r).frm∈area) != decide ((nth m.roads r).to∈area))):=rfl
    generalize pT m area=p at*
    generalize jk m r false 6 9 12=w1 at*
    generalize jk m r true 6 9 12=w2 at*
    generalize nth m.roads r=x at*
    generalize kJ r p=out at*
    obtain⟨frm,to,len,ar,walk,closed,rl,rh,ll,lh⟩:=x
    simp only at*
    generalize decide (frm∈area)=b1 at*
    generalize decide (to∈area)=b2 at*
    obtain⟨aa,roads⟩:=m
    simp only[ae]at*
    by_cases c1:0≤w1<;>by_cases c2:0≤w2<;>cases closed<;>cases b1<;>cases b2<;>simp only[c1,c2,decide_true,decide_false,Bool.not_true,Bool.not_false,Bool.true_or,Bool.or_true,Bool.or_false,Bool.false_or,Bool.true_and,Bool.and_true,Bool.false_and,Bool.and_false,bne_self_eq_false,Bool.bne_true,Bool.bne_false]at hb<;>simp only[hb,if_true,if_false,aLt]at ws<;>
     simp(disch:=omega)only[go_sem,K.od,↓reduceIte,g,t1,t2,h1,h2,ws,reduceAdd,reduceSub]
  · simp(disch:=omega)only[go_sem,K.od,↓reduceIte,Cw,ae,reduceAdd,reduceSub]
 have bl:=zl m.roads.length (pT m area)
 simp only[Cw]at*
 generalize kJ m.roads.length (pT m area)=L at*
 obtain⟨aa,roads⟩:=m
 simp only[ae]at*
 simp(disch:=omega)only[go_sem,K.gD,↓reduceIte,loop,reduceAdd,reduceSub]
def Sj(l:List Int)(t:Int):Nat→List Int
 | 0=>l
 | p+1=>if t<nth (Sj l t p) p then(Sj l t p).set p never else Sj l t p
def Sk(m:bq)(w:Wh)(t:Int):Wh:=⟨t,mT m t none (Sj w.frm t w.frm.length)⟩
theorem Hq{H H':aq}:∀(k:Nat) (d:D),(∀i∈gz H k d,∃sz pin pin' ep es,H[i]?=some (.arr sz pin ep es)∧H'[i]?=some (.arr sz pin' ep es))→frz H' k d=frz H k d∧gz H' k d=gz H k d:=by
 intro k
 induction k with
 | zero=>intro d _;cases d<;>exact⟨rfl,rfl⟩
 | succ k ih=>
   intro d h
   have list:∀es:List D,(∀i∈es.flatMap (gz H k),∃sz pin pin' ep es,H[i]?=some (.arr sz pin ep es)∧H'[i]?=some (.arr sz pin' ep es))→cK (frz H' k) es=cK (frz H k) es∧es.flatMap (gz H' k)=es.flatMap (gz H k):=by
    intro es
    induction es with
    | nil=>intro _;exact⟨rfl,rfl⟩
    | cons e es ihl=>
      intro he
      obtain⟨a1,a2⟩:=ih e fun i hi=>he i (by simp[hi])
      obtain⟨b1,b2⟩:=ihl fun i hi=>he i (by rw[List.flatMap_cons];exact List.mem_append_right _ hi)
      exact⟨by simp only[cK,a1,b1],by simp only[List.flatMap_cons,a2,b2]⟩
   cases d with
   | agg cs=>
     simp only[gz]at h
     obtain⟨a1,a2⟩:=list cs h
     exact⟨by simp only[frz,a1],by simp only[gz,a2]⟩
   | ref id ep n=>
     obtain⟨sz,pin,pin',ep',es,e1,e2⟩:=h id (by simp[gz])
     have:∀i∈es.flatMap (gz H k),∃sz pin pin' ep es,H[i]?=some (.arr sz pin ep es)∧H'[i]?=some (.arr sz pin' ep es):=fun i hi=>h i (by simp only[gz,e1];exact List.mem_cons_of_mem _ hi)
     obtain⟨a1,a2⟩:=list es this
     refine⟨?_,by simp only[gz,e1,e2,a2]⟩
     simp only[frz,iI,e1,e2]
     by_cases c:ep=ep'∧n=es.length
     · simp only[if_pos c,aLq,a1]
     · simp only[if_neg c,Option.bind_none]
   | sub id ep n lo hi=>
     obtain⟨sz,pin,pin',ep',es,e1,e2⟩:=h id (by simp[gz])
     have:∀i∈es.flatMap (gz H k),∃sz pin pin' ep es,H[i]?=some (.arr sz pin ep es)∧H'[i]?=some (.arr sz pin' ep es):=fun i hi=>h i (by simp only[gz,e1];exact List.mem_cons_of_mem _ hi)
     obtain⟨a1,a2⟩:=list es this
     have:∀i∈((es.drop lo).take (hi-lo)).flatMap (gz H k),∃sz pin pin' ep es,H[i]?=some (.arr sz pin ep es)∧H'[i]?=some (.arr sz pin' ep es):=fun i hi=>by
      obtain⟨e,he,hi⟩:=List.mem_flatMap.1 hi
      exact this i (List.mem_flatMap.2 ⟨e,List.mem_of_mem_drop (List.mem_of_mem_take he),hi⟩)
     obtain⟨b1,b2⟩:=list _ this
     refine⟨?_,by simp only[gz,e1,e2,a2]⟩
     simp only[frz,iI,e1,e2]
     by_cases c:ep=ep'∧n=es.length
     · simp only[if_pos c,aLq,b1]
     · simp only[if_neg c,Option.bind_none]
   | _=>exact⟨rfl,rfl⟩
section
variable {bm : bq} (hm : bm.ok) {t : Int} (i : Nat) {H : aq} {io iB iO n a fbi tl : Nat} {es : List D} {whr : List Wh} (e1 : H[iO]? = some (.box [.ref io 0 n])) (e2 : H[io]? = some (.arr 2 false 0 es)) (e3 : es.length = n)
 (e4:es[i]?=some (.agg [.ref a 0 tl,.ref fbi 0 whr.length])) (e5:H[fbi]?=some (.arr 2 false 0 (whs whr))) (e6:H[iB]?=some (.box (ae bm))) (hi:i<n) (hn:n≤1000000) (hl:whr.length≤1000000)
include hm e1 e2 e3 e4 e5 e6 hi hn hl
end
theorem Rp.app{H:aq}{id:Nat}{es:List D}{fa fb:Nat→Nat}{out:List World}(hr:Rp H id es fa fb out)(t:aq):Rp (H++t) id es fa fb out:=
 ⟨by rw[wm (Cc hr.arr)];exact hr.arr,hr.len,hr.el,fun j hj=>by rw[wm (Cc (hr.ha j hj))];exact hr.ha j hj,fun j hj=>by rw[wm (Cc (hr.hb j hj))];exact hr.hb j hj,hr.na,hr.nb,hr.nab,hr.nbb⟩
structure SlH(H:aq)(b:List World)(bm:bq)(iB iO io:Nat)(es:List D)(fa fb:Nat→Nat)(A:List Nat)(O:List World):Prop where
 h1:H[1]?=some (.box [.ref 3 0 b.length])
 h2:H[2]?=some (.box [.nil])
 hB:H[iB]?=some (.box (ae bm))
 hO:H[iO]?=some (.box [.ref io 0 O.length])
 rp:Rp H io es fa fb O
 ar:∀i∈A,∃sz pin ep es,H[i]?=some (.arr sz pin ep es)
 nA:∀i∈A,∀j,j<O.length→i≠fb j
 eA:gz H 7 (.ref 3 0 b.length)=A
 fr:frz H 7 (.ref 3 0 b.length)=some (.sl (b.map World.e))
theorem SlH.step{H:aq}{b:List World}{bm:bq}{iB iO io:Nat}{es:List D}{fa fb:Nat→Nat}{A:List Nat}{O:List World}(h:SlH H b bm iB iO io es fa fb A O){i:Nat}(hi:i<O.length)(x:World)(ht:(nth O i).tags=x.tags)
 (hw:x.whr.length=(nth O i).whr.length) (o:Obj):SlH (H.set (fb i) (.arr 2 false 0 (whs x.whr))++[o]) b bm iB iO io es fa fb A (O.set i x):=by
 have hb:=h.rp.hb i hi
 have nb:∀ {k:Nat} {cs:List D},H[k]?=some (.box cs)→(H.set (fb i) (.arr 2 false 0 (whs x.whr))++[o])[k]?=some (.box cs):=fun{k cs} hk=>by
  have ne:fb i≠k:=fun e=>by rw[e,hk]at hb;cases hb
  rw[wm (by rw[List.length_set];exact Cc hk),rB ne];exact hk
 have na:∀k∈A,(H.set (fb i) (.arr 2 false 0 (whs x.whr))++[o])[k]?=H[k]?:=fun k hk=>by
  obtain⟨sz,pin,ep,es',e⟩:=h.ar k hk
  rw[wm (by rw[List.length_set];exact Cc e),rB (fun e=>h.nA k hk i hi e.symm)]
 have fc:=Hq (H:=H) (H':=H.set (fb i) (.arr 2 false 0 (whs x.whr))++[o]) 7 (.ref 3 0 b.length) (fun k hk=>by
  rw[h.eA]at hk
  obtain⟨sz,pin,ep,es',e⟩:=h.ar k hk
  exact⟨sz,pin,pin,ep,es',e,by rw[na k hk];exact e⟩)
 refine⟨nb h.h1,nb h.h2,nb h.hB,by rw[List.length_set];exact nb h.hO,(h.rp.merge hi x ht hw).app _,fun k hk=>?_,by rw[List.length_set];exact h.nA,by rw[fc.2];exact h.eA,by rw[fc.1];exact h.fr⟩
 obtain⟨sz,pin,ep,es',e⟩:=h.ar k hk
 exact⟨sz,pin,ep,es',by rw[na k hk];exact e⟩
def SlE(b:List World)(H:aq):Prop:=H[2]?=some (.box [.ref 3 0 b.length])∧frz H 7 (.ref 3 0 b.length)=some (.sl (b.map World.e))
theorem SlH.late{H:aq}{b:List World}{bm:bq}{iB iO io:Nat}{es:List D}{fa fb:Nat→Nat}{A:List Nat}{O:List World}(h:SlH H b bm iB iO io es fa fb A O)(o:Obj):SlE b (H.set 2 (.box [.ref 3 0 b.length])++[o]):=by
 have l2:=Cc h.h2
 have fc:=Hq (H:=H) (H':=H.set 2 (.box [.ref 3 0 b.length])++[o]) 7 (.ref 3 0 b.length) (fun k hk=>by
  rw[h.eA]at hk
  obtain⟨sz,pin,ep,es',e⟩:=h.ar k hk
  have ne:2≠k:=fun e2=>by rw[← e2,h.h2]at e;cases e
  exact⟨sz,pin,pin,ep,es',e,by rw[wm (by rw[List.length_set];exact Cc e),rB ne];exact e⟩)
 exact⟨by rw[wm (by rw[List.length_set];exact l2),Eb l2],by rw[fc.1];exact h.fr⟩
end Go.Ev
namespace Go.Ev
open Go
variable [Lib] [bO] [bL] [dL] [dm]
end Go.Ev
namespace Go.Ev
open Go
variable [Lib] [bO] [bL] [dL] [dm] [hU] [dg] [dn] [eR] [dF] [bY] [b7] [dw] [dk] [fM] [fp]
theorem zA(l:List Place)(hl:l.length≤1000000):aL 0 N.aA [.t (.sl (l.map Place.e))] []=some (.t (.sl (l.map Place.e)),[]):=by
 refine aj K.ee rfl ?_
 by_cases h0:l=[]
 · subst h0
   simp only[List.map_nil]
   simp(disch:=omega)only[go_sem,K.aA,↓reduceIte,List.map_nil,reduceAdd,reduceSub]
 · have e:=fun H=>p5 H (l.map Place.e) (by simpa using h0)
   simp(disch:=omega)only[go_sem,K.aA,↓reduceIte,e,reduceAdd,reduceSub]
end Go.Ev
namespace Go.Ev
open Go
variable [Lib]
structure Edge where
 r:Nat
 a:Nat
 b:Nat
 t:Int
structure Lab where
 t:Int
 r:Int
 deriving DecidableEq
instance : Dat Edge := ⟨⟨0, 0, 0, 0⟩⟩
instance : Dat Lab := ⟨⟨0, 0⟩⟩
def yv(x y:Lab):Bool:=decide (x.t<y.t)||(decide (x.t=y.t)&&decide (x.r<y.r))
theorem Cx{x y:Lab}:yv x y=true↔x.t<y.t∨x.t=y.t∧x.r<y.r:=by
 simp[yv]
theorem Pv{x y:Lab}:yv x y=false↔¬(x.t<y.t∨x.t=y.t∧x.r<y.r):=by
 rw[← Cx,Bool.not_eq_true]
def Sl(L:List Lab)(e:Edge):Lab:=⟨(nth L e.b).t+e.t,(nth L e.b).r+1⟩
def agE(F:Int)(u:Edge→Bool)(L:List Lab)(e:Edge):Bool:=u e&&decide ((nth L e.b).t<F)&&yv (Sl L e) (nth L e.a)
def alV(F:Int)(u:Edge→Bool)(L:List Lab)(e:Edge):List Lab:=if agE F u L e then L.set e.a (Sl L e)else L
def agF(F:Int)(u:Edge→Bool)(E:List Edge)(L:List Lab)(c:Bool):Nat→List Lab×Bool
 | 0=>(L,c)
 | j+1=>(alV F u (agF F u E L c j).1 (nth E j),(agF F u E L c j).2||agE F u (agF F u E L c j).1 (nth E j))
structure alW(F:Int)(n:Nat)(L:List Lab):Prop where
 l:L.length=n
 t0:∀p,p<n→0≤(nth L p).t
 t1:∀p,p<n→(nth L p).t≤F
 r0:∀p,p<n→0≤(nth L p).r
 r1:∀p,p<n→(nth L p).r≤(nth L p).t
def Edge.ok(n:Nat)(e:Edge):Prop:=e.a<n∧e.b<n∧1≤e.t∧e.t≤1000000
def wL(F:Int)(x:Lab):Nat:=(x.t*(F+1)+x.r).toNat
def alX(F:Int)(L:List Lab):Nat:=(L.map (wL F)).sum
structure alY(F:Int)(n:Nat)(E:List Edge)(u:Edge→Bool)(Z:Nat→Bool)(L:List Lab):Prop extends alW F n L where
 z:∀p,p<n→Z p=true→nth L p=⟨0,0⟩
 w:∀p,p<n→(nth L p).t<F→Z p=true∨∃e∈E,u e=true∧e.a=p∧(nth L e.b).t<F∧yv (nth L p) (Sl L e)=false
structure agG(F:Int)(n:Nat)(E:List Edge)(u:Edge→Bool)(Z:Nat→Bool)(L:List Lab):Prop extends alY F n E u Z L where
 fx:∀e∈E,agE F u L e=false
def adR(F:Int)(u:Edge→Bool)(E:List Edge)(L:List Lab):List Lab:=fw (fun L=>agF F u E L false E.length) (alX F L+1) L
theorem agG.eqn{F:Int}{n:Nat}{E:List Edge}{u:Edge→Bool}{Z:Nat→Bool}{L:List Lab}(h:agG F n E u Z L)(hE:∀e∈E,e.ok n){p:Nat}(hp:p<n)(hf:(nth L p).t<F)(hz:Z p=false):∃e∈E,u e=true∧e.a=p∧(nth L e.b).t<F∧nth L p=Sl L e:=by
 rcases h.w p hp hf with h1 | ⟨e,he,e1,e2,e3,e4⟩
 · rw[hz]at h1;cases h1
 · refine⟨e,he,e1,e2,e3,?_⟩
   have fx:=h.fx e he
   unfold agE at fx
   rw[e1,decide_eq_true e3,e2]at fx
   simp only[Bool.true_and]at fx
   rw[Pv]at fx e4
   have:∀x y:Lab,x.t=y.t→x.r=y.r→x=y:=fun x y a b=>by
    cases x;cases y;simp only at a b;rw[a,b]
   exact this _ _ (by omega) (by omega)
theorem Pw{p q:Nat→Bool}(h:∀x,p x=true→q x=true){l:List Nat}{x:Nat}(hx:x∈l)(h1:q x=true)(h2:p x=false):l.countP p<l.countP q:=by
 have le:∀l:List Nat,l.countP p≤l.countP q:=fun l=>List.countP_mono_left (fun x _ hp=>h x hp)
 induction l with
 | nil=>cases hx
 | cons a l ih=>
   rw[List.countP_cons,List.countP_cons]
   have:=le l
   rcases List.mem_cons.1 hx with rfl | hx
   · rw[h1,h2];simp;omega
   · have:=ih hx
     cases hp:p a with
     | true=>rw[h a hp];simp;omega
     | false=>simp;omega
theorem agG.time{F:Int}{n:Nat}{E:List Edge}{u:Edge→Bool}{Z:Nat→Bool}{L:List Lab}(h:agG F n E u Z L)(hE:∀e∈E,e.ok n){p:Nat}(hp:p<n)(hf:(nth L p).t<F):(nth L p).t≤(n:Int)*1000000:=by
 have key:∀(k:Nat) (p:Nat),p<n→(nth L p).t.toNat=k→(nth L p).t<F→(nth L p).t≤((List.range n).countP (fun x=>yv (nth L x) (nth L p)):Int)*1000000:=by
  intro k
  induction k using Nat.strongRecOn with
  | ind k ih=>
    intro p hp hk hf
    by_cases hz:Z p=true
    · rw[h.z p hp hz]
      have:0≤((List.range n).countP (fun x=>yv (nth L x) ⟨0,0⟩):Int)*1000000:=Int.mul_nonneg (Int.natCast_nonneg _) (by omega)
      exact this
    · obtain⟨e,he,e1,e2,e3,e4⟩:=h.eqn hE hp hf (by simpa using hz)
      obtain⟨o1,o2,o3,o4⟩:=hE e he
      have ct:(nth L p).t=(nth L e.b).t+e.t:=by rw[e4];rfl
      have cr:(nth L p).r=(nth L e.b).r+1:=by rw[e4];rfl
      have b0:=h.t0 _ o2
      have:=ih (nth L e.b).t.toNat (by omega) e.b o2 rfl e3
      have lt:(List.range n).countP (fun x=>yv (nth L x) (nth L e.b))<(List.range n).countP (fun x=>yv (nth L x) (nth L p)):=by
       refine Pw (fun x hx=>?_) (aLu.2 o2) ?_ ?_
       · rw[Cx]at hx ⊢;omega
       · rw[Cx];omega
       · rw[Pv];omega
      generalize (List.range n).countP (fun x=>yv (nth L x) (nth L e.b))=c1 at*
      generalize (List.range n).countP (fun x=>yv (nth L x) (nth L p))=c2 at*
      omega
 have a:=key _ p hp rfl hf
 have b:(List.range n).countP (fun x=>yv (nth L x) (nth L p))≤n:=by
  have:=List.countP_le_length (p:=fun x=>yv (nth L x) (nth L p)) (l:=List.range n)
  simpa using this
 generalize (List.range n).countP (fun x=>yv (nth L x) (nth L p))=c at*
 omega
def ajy(u:Edge→Bool)(L:List Lab)(at':Nat)(e:Edge):Bool:=decide (e.a=at')&&u e&&decide (nth L e.b=⟨(nth L at').t-e.t,(nth L at').r-1⟩)
def ajz(u:Edge→Bool)(E:List Edge)(L:List Lab)(at':Nat):Option Edge:=E.find? (ajy u L at')
def adS(Z:Nat→Bool)(u:Edge→Bool)(E:List Edge)(L:List Lab):Nat→Nat→List Edge
 | 0,_=>[]
 | k+1,p=>if Z p then []else match ajz u E L p with
   | some e=>e::adS Z u E L k e.b
   | none=>[]
def T3:Nat→List Edge→Prop
 | _,[]=>True
 | p,e::l=>e.a=p∧T3 e.b l
def ak0:Nat→List Edge→Nat
 | p,[]=>p
 | _,e::l=>ak0 e.b l
structure ak1(F:Int)(n:Nat)(E:List Edge)(u:Edge→Bool)(Z:Nat→Bool)(L:List Lab)(p:Nat)(l:List Edge):Prop where
 mem:∀e∈l,e∈E∧u e=true∧e.b<n
 chain:T3 p l
 fin:Z (ak0 p l)=true
 sum:(l.map Edge.t).sum=(nth L p).t
 low:∀e∈l,(nth L e.b).r<(nth L p).r
 dis:(l.map Edge.b).Nodup
end Go.Ev
namespace Go.Ev.N
def Mw:Nat:=334
def Nj:Nat:=335
def Nk:Nat:=336
def XI:Nat:=337
def bZ:Nat:=338
def cQ:Nat:=339
def cz:Nat:=340
def aai:Nat:=341
def kC:Nat:=342
def eQ:Nat:=343
def lZ:Nat:=344
def agH:Nat:=345
def Qu:Nat:=346
def XJ:Nat:=347
def aaj:Nat:=348
def aak:Nat:=349
def b6:Nat:=350
def dM:Nat:=351
def fQ:Nat:=352
def gG:Nat:=353
def dV:Nat:=354
def dG:Nat:=355
def iG:Nat:=356
def jt:Nat:=357
def iV:Nat:=358
def c7:Nat:=359
def fq:Nat:=360
def ju:Nat:=361
def XK:Nat:=362
def Sm:Nat:=363
def XL:Nat:=364
def aal:Nat:=365
def aam:Nat:=366
def aan:Nat:=367
def aao:Nat:=368
def bP:Nat:=369
def au:Nat:=370
def ay:Nat:=371
def dN:Nat:=372
def az:Nat:=373
def dO:Nat:=374
def eH:Nat:=375
def XM:Nat:=376
def XN:Nat:=377
def Qv:Nat:=378
def aC:Nat:=379
def aJ:Nat:=380
def c8:Nat:=381
def Sn:Nat:=382
def fR:Nat:=383
end Go.Ev.N
namespace Go.Ev.N
def Sp:Nat:=384
def Qw:Nat:=385
def Px:Nat:=386
def Qx:Nat:=387
def Py:Nat:=388
def XO:Nat:=389
def XP:Nat:=390
def aap:Nat:=391
def Nl:Nat:=392
def XQ:Nat:=393
def ja:Nat:=394
def cL:Nat:=395
def j3:Nat:=396
def eV:Nat:=397
def Mx:Nat:=398
def nN:Nat:=399
def aaq:Nat:=400
def ma:Nat:=401
def Pz:Nat:=402
def gO:Nat:=403
def nO:Nat:=404
def iH:Nat:=405
def aar:Nat:=406
def adT:Nat:=407
def dt:Nat:=408
def du:Nat:=409
def jv:Nat:=410
def lg:Nat:=411
def gH:Nat:=412
def cj:Nat:=413
def adU:Nat:=414
def bF:Nat:=415
end Go.Ev.N
namespace Go.Ev.N
def Hr:Nat:=416
def IE:Nat:=417
def IF:Nat:=418
def Ht:Nat:=419
def XR:Nat:=420
def Nn:Nat:=421
def My:Nat:=422
def T4:Nat:=423
def No:Nat:=424
def Np:Nat:=425
def XT:Nat:=426
def Nq:Nat:=427
def Lj:Nat:=428
def Nr:Nat:=429
def Dg:Nat:=430
def JM:Nat:=431
def adV:Nat:=432
def adW:Nat:=433
def aas:Nat:=434
def Lk:Nat:=435
def gP:Nat:=436
def Ll:Nat:=437
def XU:Nat:=438
def XV:Nat:=439
def XW:Nat:=440
def T5:Nat:=441
def XX:Nat:=442
def XY:Nat:=443
def Lm:Nat:=444
def aat:Nat:=445
def Sq:Nat:=446
def aau:Nat:=447
def dW:Nat:=448
def aav:Nat:=449
def XZ:Nat:=450
def agI:Nat:=451
def agJ:Nat:=452
def adX:Nat:=453
def Hu:Nat:=454
def F9:Nat:=455
def T6:Nat:=456
def adY:Nat:=457
def aaw:Nat:=458
def adZ:Nat:=459
def Ns:Nat:=460
def vN:Nat:=461
def aax:Nat:=462
def ad0:Nat:=463
def JN:Nat:=464
def T7:Nat:=465
def Mz:Nat:=466
def wG:Nat:=467
def Ln:Nat:=468
def Lo:Nat:=469
def ad1:Nat:=470
def Qy:Nat:=471
end Go.Ev.N
namespace Go.Ev.K
open Go.Ev
def gP:Fn:= { aD:=2,vars:=[0,1,2,3,4,5],body:=(q [w 2 (.bx v0 2),w 3 (.bx v1 4),x 4 (.b false)] [] (q [f 0 v2,g l0,u (.ln l0),u (.bin .sub l0 (.i 1)),x 5 l0] [] (q [h 2 v2,u (.ca N.cy 0 [] [.l 0]),m l0,y 0 true (.fa v3 0),i 1 true l0,e 2 true v5,y 3 true (.ca N.bM 0 [] [.l 1,.i 0,.l 0]),u (.pk l4 l0 (.b false)),m l0,y 0 true (.fa v3 1),i 1 true l0,e 2 true v5,y 3 true (.ca N.bM 0 [] [.l 1,.i 0,.l 0]),u (.pk l4 l0 (.b false)),m l0,y 0 true (.fa v3 2),i 1 true l0,y 2 true (.fa v2 1),i 3 true l0,y 4 true (.ln l0),y 5 true (.bin .sub l0 (.i 1)),y 6 true (.ca N.bM 0 [] [.l 4,.i 0,.l 0]),u (.pk l7 l0 (.b false)),m l0,y 0 true (.fa v3 3),i 1 true l0,y 2 true (.ca N.bc 0 [] [.l 0,.i 0,.i 2147483648]),u (.pk l3 l0 (.b false)),x 4 l0] [] .ret))),res:=[(4,none)]}
end Go.Ev.K
namespace Go.Ev
class pt [Lib]:Prop where
 uO:Lib.fs N.gP=some K.gP
namespace K
variable [Lib] [pt]
theorem uO:Lib.fs N.gP=some K.gP:=pt.uO
end K
end Go.Ev
namespace Go.Ev.K
open Go.Ev
def dW:Fn:= { aD:=2,vars:=[0,1,2,3,4],body:=(q [w 2 (.bx v0 2),w 3 (.bx v1 4),x 4 (.b false)] [] (q [h 2 v2,u (.ca N.cG 0 [] [.l 0]),u (.bin .eql l0 (.i 0)),m l0,y 0 true (.fa v3 0),i 1 true l0,y 2 true (.fa v2 0),i 3 true l0,y 4 true (.ln l0),y 5 true (.ca N.gn 0 [] [.l 3,.l 0]),u (.pk l6 l0 (.b false)),m l0,y 0 true (.fa v3 1),i 1 true l0,y 2 true (.fa v2 0),i 3 true l0,y 4 true (.ln l0),y 5 true (.ca N.gn 0 [] [.l 3,.l 0]),u (.pk l6 l0 (.b false)),m l0,y 0 true (.fa v3 2),i 1 true l0,y 2 true (.fa v2 1),i 3 true l0,y 4 true (.ln l0),y 5 true (.ca N.gn 0 [] [.l 3,.l 0]),u (.pk l6 l0 (.b false)),m l0,y 0 true (.fa v3 3),i 1 true l0,y 2 true (.bin .geq l0 (.i 0)),u (.pk l3 l0 (.b false)),m l0,y 0 true (.fa v3 3),i 1 true l0,y 2 true (.bin .leq l0 (.i 2147483648)),u (.pk l3 l0 (.b false)),x 4 l0] [] .ret)),res:=[(4,none)]}
end Go.Ev.K
namespace Go.Ev
class px [Lib]:Prop where
 sT:Lib.fs N.dW=some K.dW
namespace K
variable [Lib] [px]
theorem sT:Lib.fs N.dW=some K.dW:=px.sT
end K
end Go.Ev
namespace Go.Ev.K
open Go.Ev
end Go.Ev.K
namespace Go.Ev
class pU [Lib]:Prop where
namespace K
variable [Lib] [pU]
end K
end Go.Ev
namespace Go.Ev
open Go
variable [Lib] [bO] [bL] [dL] [dm] [hU] [dg] [dn] [eR] [dF] [bY] [b7] [dw] [dk] [fM] [fp] [pt] [px] [pU]
structure Esc where
 safe:List Int
 bad:List Int
 shut:List Int
 gv:Int
instance : Dat Esc := ⟨⟨[], [], [], 0⟩⟩
abbrev Esc.e(e:Esc):T:= .agg [tL e.safe,tL e.bad,tL e.shut,tI e.gv]
structure Esc.ok(m:bq)(e:Esc):Prop where
 s:lQ e.safe m.aa.length=true
 b:lQ e.bad m.aa.length=true
 h:lQ e.shut m.roads.length=true
 l0:0≤e.gv
 l1:e.gv≤2147483648
theorem Esc.ok.sl{m:bq}{e:Esc}(hm:m.ok)(h:e.ok m):e.safe.length≤64:=by
 have:=E7 h.s;have:=hm.np;omega
theorem Esc.ok.bl{m:bq}{e:Esc}(hm:m.ok)(h:e.ok m):e.bad.length≤64:=by
 have:=E7 h.b;have:=hm.np;omega
theorem Esc.ok.hl{m:bq}{e:Esc}(hm:m.ok)(h:e.ok m):e.shut.length≤128:=by
 have:=E7 h.h;have:=hm.nr;omega
abbrev Sr(m:bq)(k:Nat)(back:Bool):Int:=jk m k back 2 3 4
end Go.Ev
namespace Go.Ev
open Go
variable [Lib] [bO] [bL] [dL] [dm] [hU] [dg] [dn] [eR] [dF] [bY]
theorem PA(k:Keys):Mf k=true↔oe k.roads=true∧k.keys.length=k.roads.length∧(∀x∈k.keys,0≤x∧x≤2)∧(k.out=true→∀x∈k.keys,x=2):=by
 unfold Mf K7
 simp only[aLr,decide_eq_true_eq,Bool.not_eq_true',List.any_eq_false,Bool.not_eq_false',Bool.or_eq_true,Bool.not_eq_true,decide_eq_false_iff_not,Decidable.not_not,and_assoc]
 constructor
 · rintro ⟨a,b,c,d⟩
   refine⟨a,b,fun x hx=>by simpa using c x hx,fun ho x hx=>?_⟩
   rcases d with d | d
   · rw[ho]at d;cases d
   · exact d x hx
 · rintro ⟨a,b,c,d⟩
   refine⟨a,b,fun x hx=>by simpa using c x hx,?_⟩
   cases ho:k.out with
   | false=>left;rfl
   | true=>right;exact d ho
abbrev zK(l:List Int):Keys:=⟨l,List.replicate l.length 0,false⟩
end Go.Ev
namespace Go.Ev
open Go
variable [Lib] [bO] [bL] [dL] [dm] [hU] [dg] [dn] [eR] [dF] [bY] [b7] [dw] [dk] [fM] [fp]
end Go.Ev
namespace Go.Ev
open Go
variable [Lib] [bO] [bL] [dL] [dm] [hU] [dg] [dn] [eR] [dF] [bY] [b7]
def AW(P:Wh→Prop)(ws:List World):Prop:=∀x∈ws,∀w∈x.whr,P w
structure Kept(m:bq)(T:Int)(P:Wh→Prop):Prop where
 see:∀w l a b,P w→b≤T→P (akK m w l a b).1
 abs:∀w l a b bl,P w→b≤T→P (akM m w l a b bl).1
 raise:∀w t,P w→t≤T→P (OF w t).1
 join:∀a b,P a→P b→a.frm.length=b.frm.length→P (OI a b).1
theorem AW.set{P:Wh→Prop}{x:World}(h:∀w∈x.whr,P w)(tag:Int){w:Wh}(hw:(j6 x.tags tag).toNat<x.whr.length→P w):∀y∈(agA tag x w).whr,P y:=by
 intro y hy
 simp only[agA]at hy
 by_cases c:(j6 x.tags tag).toNat<x.whr.length
 · rcases aLk hy with a | rfl
   · exact h y a
   · exact hw c
 · rw[List.set_eq_of_length_le (by omega)]at hy;exact h y hy
end Go.Ev
namespace Go.Ev
open Go
variable [Lib] [bO] [bL] [dL]
end Go.Ev
namespace Go.Ev
open Go
variable [Lib] [bO] [bL] [dL] [dm] [hU] [dg] [dn] [eR] [dF] [bY] [b7] [dw] [dk] [fM] [fp]
structure SlF(bm:bq)(w:Wh)(t:Int):Prop where
 ln:(Sk bm w t).frm.length=bm.aa.length
 bd:bnd (Sk bm w t).frm
 cl:clW bm t none (Sk bm w t).frm
 le:∀j,j<bm.aa.length→nth (Sk bm w t).frm j≤if t<nth w.frm j then 1099511627776 else nth w.frm j
theorem ad2{d:aT}(hd:d.dY)(n:Nat)(hn:n≤1000000):
 ∃(l:List Int) (e:aT),aL 0 N.dy [.bp 0 0,I n] [d.obj]=some (.t (tL l),[e.obj])∧e.dY∧l.length≤n∧lQ l n=true:=
 ⟨_,_,Wd d n hn hd,aT.xh hd n,d.Ca n,Ep d n⟩
section
variable (e : aT) {m bm : bq} (b c : Bel) (t : Int) (l : List Int)
end
end Go.Ev
namespace Go.Ev.K
open Go.Ev
def c9:C:= (.seq (.ite [m v5,u (.bin .gtr l0 (.i 0))] [] 0 .skip (.exit 0)) (.seq (.blk 1 (q [m v0,f 0 v2,g l0,u (.ln l0),u (.ca N.dy 0 [] [.l 3,.l 0]),m v0,u (.bs [.i 9,.i 29,.i 4] 1),u (.ca N.bI 0 [] [.l 1,.l 0]),u (.bin .add (.i 1) l0),m v0,u (.ca N.aR 0 [] [.l 0,.i 3]),m v0,u (.bs [.i 0,.i 1,.i 5] 1),u (.ca N.bI 0 [] [.l 1,.l 0]),u (.bd [.nil,z0,z0,z0] [(0,1,.l 9),(1,1,.l 5),(2,1,.l 3),(3,1,.l 0)]),w 6 (.al [.nil,z0,z0,z0] []),u (.st l0 l1 4 [])] [] (.seq (.ite [f 0 v6,g l0,u (.ln l0),u (.bin .eql l0 (.i 0))] [] 0 (.reg [m v0,f 0 v2,g l0,u (.ln l0),u (.ca N.aR 0 [] [.l 3,.l 0]),u (.bs [.l 0] 1),f 0 v6,u (.st l0 l1 1 [])] []) .skip) (.reg [m v4,h 4 v6,u (.bs [.l 0] 4),u (.app l2 l0 true 4),x 4 l0] [])))) (.reg [m v5,u (.bin .sub l0 (.i 1)),x 5 l0] [])))
def oy:C:= .loop true [1,3,6] K.c9
def bZ:Fn:= { aD:=2,vars:=[0,1,3,4,5,6,7],body:=(q [w 2 (.bx v1 2),w 3 (.mv (.c (.nil)))] [] (q [w 4 (.nw 4)] [] (.seq (q [m v0,u (.ca N.aR 0 [] [.l 0,.i 4]),x 5 l0] [] (.blk 0 K.oy)) (q [m v4,x 3 l0] [] .ret)))),res:=[(3,none)]}
def pz:C:= (.its [u (.bin .lss v13 v12)] [] 0 .skip (.exit 1) (.seq (.blk 2 (q [a 1 v11 v13,g l0,x 10 l0] [] (.reg [f 3 v9,g l0,m v10,u (.bd [z0,z0,z0] [(0,1,.l 0),(1,1,.i (-1))]),u (.bs [.l 0] 3),u (.app l3 l0 true 3),f 3 v9,u (.st l0 l1 1 [])] []))) (.reg [u (.bin .add v13 (.i 1)),x 13 l0] [])))
def wH:C:= .loop true [0,2,3,4,5,7,10,14,15] K.pz
def pA:C:= (.its [u (.bin .lss v15 v14)] [] 0 .skip (.exit 3) (.seq (.blk 4 (.reg [f 6 v9,g l0,u (.bs [.i (-1)] 1),u (.app l1 l0 true 1),f 7 v9,g l0,u (.bs [.i (-1)] 1),u (.app l1 l0 true 1),f 8 v9,g l0,m v8,u (.mkt l0 (.int .i64 (0)) 1),u (.bs [.l 0] 1),u (.app l3 l0 true 1),f 6 v9,u (.st l0 l11 1 []),f 7 v9,u (.st l0 l9 1 []),f 8 v9,u (.st l0 l5 1 [])] [(2,2),(5,0),(6,0),(9,0),(9,4),(11,0),(11,4),(12,0),(12,4)])) (.reg [u (.bin .add v15 (.i 1)),x 15 l0] [])))
def wI:C:= .loop true [0,1,2,3,4,5,7,10,11,12,13] K.pA
def cQ:Fn:= { aD:=5,vars:=[0,1,2,3,4,5,10,11,12,13,15,55,56,57,70,71],body:=(q [w 5 (.bx v0 2),w 6 (.al [.nil,.nil,z0,.nil,.nil,.nil,.nil,.nil,.nil] []),x 7 (.i 0)] [] (q [m v2,u (.ln l0),x 8 l0] [] (.seq (.blk 0 (.ite [h 2 v5,m v1,u (.ca N.b6 0 [] [.l 1,.l 0]),u (.un .not l0),m l0,e 0 false v3,y 1 false (.ln l0),e 2 false v8,y 3 false (.bin .neq l1 l0),u (.pk l4 (.b true) l0),m l0,e 0 false v8,y 1 false (.ca N.bc 0 [] [.l 0,.i 1,.i 12]),y 2 false (.un .not l0),u (.pk l3 (.b true) l0),m l0] [] 0 (q [u (.bd [.nil,.nil,z0,.nil,.nil,.nil,.nil,.nil,.nil] []),u (.st v6 l0 9 []),x 7 (.i 6)] [] .ret) (.ite [m v2,u (.mf N.dM [.v 5]),u (.ca N.ax 0 [] [.l 1,.l 0]),m l0] [] 0 (q [u (.bd [.nil,.nil,z0,.nil,.nil,.nil,.nil,.nil,.nil] []),u (.st v6 l0 9 []),x 7 (.i 3)] [] .ret) (.ite [m v3,u (.ca N.fQ 0 [] [.l 0]),u (.un .not l0),m l0] [] 0 (q [u (.bd [.nil,.nil,z0,.nil,.nil,.nil,.nil,.nil,.nil] []),u (.st v6 l0 9 []),x 7 (.i 41)] [] .ret) (.ite [m v4,u (.ca N.bc 0 [] [.l 0,.i 0,.i 2147483648]),u (.un .not l0),m l0] [] 0 (q [u (.bd [.nil,.nil,z0,.nil,.nil,.nil,.nil,.nil,.nil] []),u (.st v6 l0 9 []),x 7 (.i 8)] [] .ret) .skip))))) (q [h 2 v5,m v4,m v3,m v1,u (.bd [.nil,.nil,z0,.nil,.nil,.nil,.nil,.nil,.nil] [(0,2,.l 3),(2,1,.l 2),(4,1,.l 1),(5,1,.l 0)]),w 9 (.al [.nil,.nil,z0,.nil,.nil,.nil,.nil,.nil,.nil] [(3,3),(6,1),(7,1),(8,1)]),u (.st l0 l1 9 [(3,3),(6,1),(7,1),(8,1)])] [] (.seq (q [x 11 v2,w 12 (.ln l0),x 13 (.i 0)] [] (.blk 1 K.wH)) (.seq (q [m v1,w 14 (.ln l0),x 15 (.i 0)] [] (.blk 3 K.wI)) (q [h 9 v9,u (.ca N.gG 0 [] [.l 0]),u (.st v6 l0 9 []),x 7 (.i 0)] [] .ret))))))),res:=[(6,some (9,true)),(7,none)]}
def jw:C:= (.seq (.ite [m v9,m v8,u (.bin .lss l1 l0)] [] 0 .skip (.exit 0)) (.seq (.blk 1 (.ite [m v2,m v9,a 1 l1 l0,g l0,u (.bin .lss l0 (.i 0)),m l0,e 0 false v2,e 1 false v9,y 2 false (.ia l1 l0 1),i 3 false l0,y 4 false (.fa v5 0),i 5 false l0,y 6 false (.ln l0),y 7 false (.bin .geq l3 l0),u (.pk l8 (.b true) l0)] [] 0 (q [u (.bd [.nil,.nil,z0,.nil,.nil,.nil,.nil,.nil,.nil] []),u (.st v6 l0 9 []),x 7 (.i 3)] [] .ret) .skip)) (.reg [m v9,u (.bin .add l0 (.i 1)),x 9 l0] [])))
def wJ:C:= .loop true [0,7,10,11,12] K.jw
def pB:C:= (.seq (.ite [m v11,m v8,u (.bin .lss l1 l0)] [] 0 .skip (.exit 2)) (.seq (.blk 3 (.reg [f 3 v10,g l0,m v2,m v11,a 1 l1 l0,g l0,u (.bd [z0,z0,z0] [(0,1,.l 0),(1,1,.i (-1))]),u (.bs [.l 0] 3),u (.app l6 l0 true 3),f 3 v10,u (.st l0 l1 1 [])] [(1,8)])) (.reg [m v11,u (.bin .add l0 (.i 1)),x 11 l0] [])))
def wK:C:= .loop true [0,3,4,5,7,9,12] K.pB
def pC:C:= (.seq (.ite [m v12,m v1,u (.ln l0),u (.bin .lss l2 l0)] [] 0 .skip (.exit 4)) (.seq (.blk 5 (.reg [f 6 v10,g l0,u (.bs [.i (-1)] 1),u (.app l1 l0 true 1),f 7 v10,g l0,u (.bs [.i (-1)] 1),u (.app l1 l0 true 1),f 8 v10,g l0,m v8,u (.mkt l0 (.int .i64 (0)) 1),u (.bs [.l 0] 1),u (.app l3 l0 true 1),f 6 v10,u (.st l0 l11 1 []),f 7 v10,u (.st l0 l9 1 []),f 8 v10,u (.st l0 l5 1 [])] [(2,2),(5,0),(6,0),(9,0),(9,4),(11,0),(11,4),(12,0),(12,4)])) (.reg [m v12,u (.bin .add l0 (.i 1)),x 12 l0] [])))
def wM:C:= .loop true [0,2,3,4,5,7,9,11] K.pC
def cz:Fn:= { aD:=5,vars:=[0,1,2,3,4,5,10,11,12,13,14,15,16],body:=(q [w 5 (.bx v0 2),w 6 (.al [.nil,.nil,z0,.nil,.nil,.nil,.nil,.nil,.nil] []),x 7 (.i 0)] [] (q [m v2,u (.ln l0),x 8 l0] [] (.seq (.ite [h 2 v5,m v1,u (.ca N.dV 0 [] [.l 1,.l 0]),u (.un .not l0),m l0,e 0 false v8,y 1 false (.bin .lss l0 (.i 1)),u (.pk l2 (.b true) l0),m l0,e 0 false v8,y 1 false (.bin .gtr l0 (.i 12)),u (.pk l2 (.b true) l0),m l0,e 0 false v3,y 1 false (.ln l0),e 2 false v8,y 3 false (.bin .neq l1 l0),u (.pk l4 (.b true) l0)] [] 0 (q [u (.bd [.nil,.nil,z0,.nil,.nil,.nil,.nil,.nil,.nil] []),u (.st v6 l0 9 []),x 7 (.i 6)] [] .ret) .skip) (.seq (q [x 9 (.i 0)] [] (.blk 0 K.wJ)) (.seq (.ite [m v3,u (.ca N.dG 0 [] [.l 0]),u (.un .not l0)] [] 0 (q [u (.bd [.nil,.nil,z0,.nil,.nil,.nil,.nil,.nil,.nil] []),u (.st v6 l0 9 []),x 7 (.i 41)] [] .ret) .skip) (.seq (.ite [m v4,u (.bin .lss l0 (.i 0)),m l0,e 0 false v4,y 1 false (.bin .gtr l0 (.i 2147483648)),u (.pk l2 (.b true) l0)] [] 0 (q [u (.bd [.nil,.nil,z0,.nil,.nil,.nil,.nil,.nil,.nil] []),u (.st v6 l0 9 []),x 7 (.i 8)] [] .ret) .skip) (q [h 2 v5,m v4,m v3,m v1,u (.bd [.nil,.nil,z0,.nil,.nil,.nil,.nil,.nil,.nil] [(0,2,.l 3),(2,1,.l 2),(4,1,.l 1),(5,1,.l 0)]),w 10 (.al [.nil,.nil,z0,.nil,.nil,.nil,.nil,.nil,.nil] [(3,3),(6,1),(7,1),(8,1)]),u (.st l0 l1 9 [(3,3),(6,1),(7,1),(8,1)])] [] (.seq (q [x 11 (.i 0)] [] (.blk 2 K.wK)) (.seq (q [x 12 (.i 0)] [] (.blk 4 K.wM)) (q [h 9 v10,u (.ca N.iG 0 [] [.l 0]),u (.st v6 l0 9 []),x 7 (.i 0)] [] .ret)))))))))),res:=[(6,some (9,true)),(7,none)]}
def kC:Fn:= { aD:=4,vars:=[0,1,2,3,4,8,9,10,11,12,13],body:=(q [w 4 (.bx v0 9),w 5 (.al [.nil,.nil,z0,.nil,.nil,.nil,.nil,.nil,.nil] []),x 6 (.i 0)] [] (.seq (q [h 9 v4,m v1,u (.bs [.l 0] 1),u (.ca N.iV 0 [] [.l 2,.l 0]),x 7 l0] [] (.ite [m v7,u (.bin .neq l0 (.i 0))] [] 0 (q [h 9 v4,m v7,u (.st v5 l1 9 []),x 6 l1] [] .ret) .skip)) (q [f 3 v4,g l0,m v1,a 3 l1 l0,h 3 l0,w 8 (.al [z0,z0,z0] []),u (.st l0 l1 3 [])] [] (q [f 0 v4,h 2 l0,m v2,f 0 v8,g l0,u (.ca N.c7 0 [] [.l 3,.l 2,.l 0]),x 9 l0] [] (.seq (.blk 0 (.ite [f 1 v8,g l0,u (.bin .geq l0 (.i 0)),m l0] [] 0 (q [h 9 v4,u (.st v5 l0 9 []),x 6 (.i 10)] [] .ret) (.ite [m v9,u (.bin .lss l0 (.i 0)),m l0] [] 0 (q [h 9 v4,u (.st v5 l0 9 []),x 6 (.i 4)] [] .ret) (.ite [m v3,u (.ca N.bc 0 [] [.l 0,.i 0,.i 3600]),u (.un .not l0),m l0] [] 0 (q [h 9 v4,u (.st v5 l0 9 []),x 6 (.i 1)] [] .ret) .skip)))) (q [h 9 v4,u (.ca N.c8 1 [] [.l 0]),w 10 (.al [.nil,.nil,z0,.nil,.nil,.nil,.nil,.nil,.nil] []),u (.st l0 l1 9 [])] [] (q [f 3 v10,g l0,m v1,f 3 v10,g l0,m v1,m v2,m v9,m v3,u (.bin .add l1 l0),a 3 l8 l7,f 1 l0,u (.st l0 l5 1 []),a 3 l8 l7,f 2 l0,u (.st l0 l5 1 [])] [(4,13)] (q [h 9 v10,u (.st v5 l0 9 []),x 6 (.i 0)] [] .ret)))))))),res:=[(5,some (9,true)),(6,none)]}
def lq:C:= (.its [u (.bin .lss v10 v9)] [] 0 .skip (.exit 1) (.seq (.blk 2 (q [m v10,a 3 v8 v10,h 3 l0,w 7 (.al [z0,z0,z0] []),x 6 l3,u (.st l1 l2 3 [])] [] (.seq (.ite [f 1 v7,g l0,u (.bin .lss l0 (.i 0))] [] 0 (.exit 2) .skip) (.seq (q [f 2 v7,g l0,m v1,u (.bin .sub l1 l0),f 2 v7,u (.st l0 l1 1 [])] [] (.ite [f 2 v7,g l0,u (.bin .leq l0 (.i 0))] [] 0 (.reg [f 0 v2,h 2 l0,f 1 v7,g l0,f 0 v7,g l0,u (.ca N.ju 0 [] [.l 4,.l 2,.l 0]),u (.bd [z0,z0,z0] [(0,1,.l 0),(1,1,.i (-1))]),u (.st v7 l0 3 [])] []) .skip)) (.reg [f 3 v5,g l0,m v6,h 3 v7,a 3 l2 l1,u (.st l0 l1 3 [])] []))))) (.reg [u (.bin .add v10 (.i 1)),x 10 l0] [])))
def yw:C:= .loop true [0,4,6,7] K.lq
def eQ:Fn:= { aD:=2,vars:=[0,1,2,4,5,6,7,8,34,35,36],body:=(q [w 2 (.bx v0 9),w 3 (.al [.nil,.nil,z0,.nil,.nil,.nil,.nil,.nil,.nil] []),x 4 (.i 0)] [] (.seq (.blk 0 (.ite [h 9 v2,u (.ca N.fq 0 [] [.l 0]),u (.un .not l0),m l0] [] 0 (q [h 9 v2,u (.st v3 l0 9 []),x 4 (.i 6)] [] .ret) (.ite [m v1,u (.ca N.bc 0 [] [.l 0,.i 0,.i 3600]),u (.un .not l0),m l0] [] 0 (q [h 9 v2,u (.st v3 l0 9 []),x 4 (.i 1)] [] .ret) (.ite [f 2 v2,g l0,m v1,u (.bin .add l1 l0),u (.bin .gtr l0 (.i 2147483648)),m l0] [] 0 (q [h 9 v2,u (.st v3 l0 9 []),x 4 (.i 8)] [] .ret) .skip)))) (q [h 9 v2,u (.ca N.c8 1 [] [.l 0]),w 5 (.al [.nil,.nil,z0,.nil,.nil,.nil,.nil,.nil,.nil] []),u (.st l0 l1 9 [])] [] (q [f 2 v5,g l0,m v1,u (.bin .add l1 l0),f 2 v5,u (.st l0 l1 1 [])] [] (.seq (q [f 3 v5,w 8 (.ld l0 1 false),w 9 (.ln l0),x 10 (.i 0)] [] (.blk 1 K.yw)) (q [h 9 v5,u (.st v3 l0 9 []),x 4 (.i 0)] [] .ret)))))),res:=[(3,some (9,true)),(4,none)]}
def Dh:C:= (.its [u (.bin .lss v20 v19)] [] 0 .skip (.exit 1) (.seq (.blk 2 (q [m v20,a 3 v18 v20,h 3 l0,w 14 (.al [z0,z0,z0] []),x 13 l3,u (.st l1 l2 3 [])] [] (q [f 0 v8,g l0,f 0 v14,g l0,u (.ca N.aP 0 [] [.l 2,.l 0]),m v2,m v13,u (.bin .shr l1 l0),u (.bin .and l0 (.i 1)),u (.bin .eql l0 (.i 1)),x 15 l5,x 16 l1] [] (q [f 8 v9,g l0,m v1,a 1 l1 l0,g l0,m v13,a 1 l1 l0,x 17 l0] [] (.blk 3 (.ite [m v15,m l0,e 0 true v16,u (.pk l1 l0 (.b false)),m l0] [] 0 (q [m v17,u (.nc l0),g l0,u (.bin .add l0 (.i 1)),u (.nc l3),u (.st l0 l1 1 [])] [] (.ite [m v17,u (.nc l0),g l0,f 2 v8,g l0,u (.bin .gtr l2 l0)] [] 0 (q [h 9 v4,u (.bd [z0,z0,z0,.nil] []),u (.st v5 l1 9 []),u (.st v6 l1 4 []),x 7 (.i 43)] [] .ret) .skip)) (q [m v17,u (.nc l0),u (.st l0 (.i 0) 1 [])] [] (.ite [m v15] [] 0 (.reg [f 3 v12,g l0,f 4 v4,g l0,m v13,a 1 l1 l0,g l0,u (.bs [.l 0] 1),u (.app l6 l0 true 1),f 3 v12,u (.st l0 l1 1 [])] [(1,8)]) .skip)))))))) (.reg [u (.bin .add v20 (.i 1)),x 20 l0] [])))
def Fo:C:= .loop false [0,3,7,10,11,13,14,15,16,17] K.Dh
def lZ:Fn:= { aD:=4,vars:=[0,1,2,3,4,8,9,10,11,12,13,14,15,16,17,18,19,20,108,109,110],body:=(q [w 4 (.bx v0 9),w 5 (.al [.nil,.nil,z0,.nil,.nil,.nil,.nil,.nil,.nil] []),w 6 (.al [z0,z0,z0,.nil] []),x 7 (.i 0)] [] (.seq (.blk 0 (.ite [h 9 v4,u (.ca N.fq 0 [] [.l 0]),u (.un .not l0),m l0] [] 0 (q [h 9 v4,u (.bd [z0,z0,z0,.nil] []),u (.st v5 l1 9 []),u (.st v6 l1 4 []),x 7 (.i 6)] [] .ret) (.ite [m v1,f 5 v4,g l0,u (.ln l0),u (.bin .sub l0 (.i 1)),u (.ca N.bc 0 [] [.l 4,.i 0,.l 0]),u (.un .not l0),m l0] [] 0 (q [h 9 v4,u (.bd [z0,z0,z0,.nil] []),u (.st v5 l1 9 []),u (.st v6 l1 4 []),x 7 (.i 40)] [] .ret) .skip))) (q [f 5 v4,g l0,m v1,a 4 l1 l0,h 4 l0,w 8 (.al [.nil,z0,z0,z0] []),u (.st l0 l1 4 [])] [] (.seq (.ite [m v3,f 3 v8,g l0,u (.un .neg l0),f 3 v8,g l0,u (.ca N.bc 0 [] [.l 5,.l 2,.l 0]),u (.un .not l0),m l0,y 0 false (.fa v4 2),i 1 false l0,e 2 false v3,y 3 false (.bin .add l1 l0),y 4 false (.ca N.bc 0 [] [.l 0,.i 0,.i 2147483648]),y 5 false (.un .not l0),u (.pk l6 (.b true) l0)] [] 0 (q [h 9 v4,u (.bd [z0,z0,z0,.nil] []),u (.st v5 l1 9 []),u (.st v6 l1 4 []),x 7 (.i 1)] [] .ret) .skip) (q [h 9 v4,u (.ca N.fR 2 [] [.l 0]),w 9 (.al [.nil,.nil,z0,.nil,.nil,.nil,.nil,.nil,.nil] []),u (.st l0 l1 9 [])] [] (q [x 10 (.i 1)] [] (.seq (.ite [f 7 v4,g l0,m v1,a 1 l1 l0,g l0,u (.bin .geq l0 (.i 0)),m l0,y 0 true (.fa v4 2),i 1 true l0,y 2 true (.fa v4 7),i 3 true l0,e 4 true v1,y 5 true (.ia l1 l0 1),i 6 true l0,y 7 true (.bin .sub l5 l0),y 8 true (.fa v8 1),i 9 true l0,y 10 true (.bin .gtr l2 l0),u (.pk l11 l0 (.b false))] [] 0 (.reg [x 10 (.i 2)] []) .skip) (q [f 6 v4,g l0,m v1,a 1 l1 l0,g l0,m v10,u (.bin .add l1 l0),u (.bin .rem l0 (.i 65536)),x 11 l0] [] (q [f 6 v9,g l0,m v1,f 7 v9,g l0,m v1,m v11,f 2 v4,g l0,a 1 l7 l6,u (.st l0 l3 1 []),a 1 l6 l5,u (.st l0 l3 1 [])] [(4,11),(8,11)] (q [m v1,m v11,f 2 v4,g l0,m v3,u (.bin .add l1 l0),u (.bd [z0,z0,z0,.nil] [(0,1,.l 5),(1,1,.l 4),(2,1,.l 0)]),w 12 (.al [z0,z0,z0,.nil] [(3,1)]),u (.st l0 l1 4 [(3,1)])] [] (.seq (q [f 3 v4,w 18 (.ld l0 1 false),w 19 (.ln l0),x 20 (.i 0)] [] (.blk 1 K.Fo)) (q [f 3 v12,g l0,u (.ca N.cH 0 [0] [.l 0])] [] (q [h 9 v9,h 4 v12,u (.st v5 l1 9 []),u (.st v6 l1 4 []),x 7 (.i 0)] [(1,3)] .ret))))))))))))),res:=[(5,some (9,true)),(6,some (4,true)),(7,none)]}
end Go.Ev.K
namespace Go.Ev
class jx [Lib]:Prop where
 jM:Lib.fs N.bZ=some K.bZ
 oL:Lib.fs N.cQ=some K.cQ
 oM:Lib.fs N.cz=some K.cz
 yx:Lib.fs N.kC=some K.kC
 uP:Lib.fs N.eQ=some K.eQ
 AF:Lib.fs N.lZ=some K.lZ
namespace K
variable [Lib] [jx]
theorem jM:Lib.fs N.bZ=some K.bZ:=jx.jM
theorem oL:Lib.fs N.cQ=some K.cQ:=jx.oL
theorem oM:Lib.fs N.cz=some K.cz:=jx.oM
theorem yx:Lib.fs N.kC=some K.kC:=jx.yx
theorem uP:Lib.fs N.eQ=some K.eQ:=jx.uP
theorem AF:Lib.fs N.lZ=some K.lZ:=jx.AF
end K
end Go.Ev
namespace Go.Ev.K
open Go.Ev
def b6:Fn:= { aD:=2,vars:=[0,1,2,4,5],body:=(q [w 2 (.bx v0 2),x 3 (.b false)] [] (q [u (.mf N.bP [.v 2]),x 4 l0] [] (q [h 2 v2,u (.ca N.cy 0 [] [.l 0]),m l0,e 0 true v1,y 1 true (.ln l0),y 2 true (.bin .leq l0 (.i 32)),u (.pk l3 l0 (.b false)),m l0,e 0 true v1,e 1 true v4,y 2 true (.ca N.au 0 [] [.l 1,.l 0]),y 3 true (.un .not l0),u (.pk l4 l0 (.b false)),x 3 l0] [] .ret))),res:=[(3,none)]}
def dM:Fn:= { aD:=2,vars:=[0,1,3],body:=(q [x 2 (.b false)] [] (q [m v0,f 0 v1,g l0,u (.ln l0),u (.bin .sub l0 (.i 1)),u (.ca N.bc 0 [] [.l 4,.i 0,.l 0]),u (.un .not l0),x 2 l0] [] .ret)),res:=[(2,none)]}
def fQ:Fn:= { aD:=1,vars:=[0,2],body:=(q [x 1 (.b false)] [] (q [m v0,u (.ca N.bk 0 [] [.l 0]),u (.ca N.bX 0 [] [.l 0]),u (.ca N.bM 0 [] [.l 0,.i 1,.i 65535]),x 1 l0] [] .ret)),res:=[(1,none)]}
def oh:C:= (.its [u (.bin .lss v8 v7)] [] 0 .skip (.exit 0) (.seq (.blk 1 (q [a 4 v6 v8,h 4 l0,w 4 (.al [.nil,z0,z0,z0] []),u (.st l0 l1 4 [])] [] (q [f 0 v4,g l0,u (.ca N.ai 0 [] [.l 0]),f 0 v4,u (.st l0 l1 1 [])] [] (.reg [f 5 v3,g l0,h 4 v4,u (.bs [.l 0] 4),u (.app l2 l0 true 4),f 5 v3,u (.st l0 l1 1 [])] [])))) (.reg [u (.bin .add v8 (.i 1)),x 8 l0] [])))
def uQ:C:= .loop true [0,4,5,9,10,11] K.oh
def om:C:= (.its [u (.bin .lss v11 v10)] [] 0 .skip (.exit 2) (.seq (.blk 3 (q [a 1 v9 v11,g l0,x 5 l0] [] (.reg [f 8 v3,g l0,m v5,u (.ca N.ai 0 [] [.l 0]),u (.bs [.l 0] 1),u (.app l3 l0 true 1),f 8 v3,u (.st l0 l1 1 [])] [(1,4),(1,5)]))) (.reg [u (.bin .add v11 (.i 1)),x 11 l0] [])))
def uR:C:= .loop true [0,1,4,5,6,7,8] K.om
def gG:Fn:= { aD:=1,vars:=[0,1,2,3,5,7,29,30,31,56,57,58],body:=(q [w 1 (.bx v0 9),w 2 (.al [.nil,.nil,z0,.nil,.nil,.nil,.nil,.nil,.nil] [])] [] (q [h 9 v1,w 3 (.al [.nil,.nil,z0,.nil,.nil,.nil,.nil,.nil,.nil] [(5,4),(8,1)]),u (.st l0 l1 9 [])] [] (q [f 0 v1,f 0 l0,g l0,u (.ca N.aA 0 [] [.l 0]),f 0 v1,f 1 l0,g l0,u (.ca N.aB 0 [] [.l 0]),u (.bd [.nil,.nil] [(0,1,.l 4),(1,1,.l 0)]),f 0 v3,u (.st l0 l1 2 [])] [(6,0)] (q [f 3 v1,g l0,u (.ca N.ay 0 [] [.l 0]),f 4 v1,g l0,u (.ca N.ai 0 [] [.l 0]),f 3 v3,u (.st l0 l4 1 []),f 4 v3,u (.st l0 l3 1 [])] [(4,0)] (q [f 5 v3,u (.st l0 (.c (.nil)) 1 [(5,4)])] [] (.seq (q [f 5 v1,w 6 (.ld l0 1 false),w 7 (.ln l0),x 8 (.i 0)] [] (.blk 0 K.uQ)) (q [f 6 v1,g l0,u (.ca N.ai 0 [] [.l 0]),f 7 v1,g l0,u (.ca N.ai 0 [] [.l 0]),f 6 v3,u (.st l0 l4 1 []),f 7 v3,u (.st l0 l3 1 [])] [(4,0)] (q [f 8 v3,u (.st l0 (.c (.nil)) 1 [(8,1)])] [] (.seq (q [f 8 v1,w 9 (.ld l0 1 false),w 10 (.ln l0),x 11 (.i 0)] [] (.blk 2 K.uR)) (q [h 9 v3,u (.st v2 l0 9 [])] [] .ret)))))))))),res:=[(2,some (9,true))]}
def ba:C:= (.seq (.ite [m v4,m v1,u (.ln l0),u (.bin .lss l2 l0)] [] 0 .skip (.exit 0)) (.seq (.blk 1 (q [m v1,m v4,a 4 l1 l0,h 4 l0,w 5 (.al [.nil,z0,z0,z0] []),u (.st l0 l1 4 [])] [] (.ite [f 0 v5,g l0,u (.ln l0),u (.bin .eql l0 (.i 0)),m l0,y 0 false (.fa v5 0),i 1 false l0,y 2 false (.fa v2 0),i 3 false l0,y 4 false (.ln l0),y 5 false (.ca N.gn 0 [] [.l 3,.l 0]),y 6 false (.un .not l0),u (.pk l7 (.b true) l0),m l0,y 0 false (.fa v5 1),i 1 false l0,y 2 false (.bin .lss l0 (.i 1)),u (.pk l3 (.b true) l0),m l0,y 0 false (.fa v5 1),i 1 false l0,y 2 false (.bin .gtr l0 (.i 600)),u (.pk l3 (.b true) l0),m l0,y 0 false (.fa v5 2),i 1 false l0,y 2 false (.bin .lss l0 (.i 0)),u (.pk l3 (.b true) l0),m l0,y 0 false (.fa v5 2),i 1 false l0,y 2 false (.bin .gtr l0 (.i 10)),u (.pk l3 (.b true) l0),m l0,y 0 false (.fa v5 3),i 1 false l0,y 2 false (.bin .lss l0 (.i 0)),u (.pk l3 (.b true) l0),m l0,y 0 false (.fa v5 3),i 1 false l0,y 2 false (.bin .gtr l0 (.i 60)),u (.pk l3 (.b true) l0)] [] 0 (q [x 3 (.b false)] [] .ret) .skip))) (.reg [m v4,u (.bin .add l0 (.i 1)),x 4 l0] [])))
def qK:C:= .loop true [0,3,5] K.ba
def dV:Fn:= { aD:=2,vars:=[0,1,2,4,5,6],body:=(q [w 2 (.bx v0 2),x 3 (.b false)] [] (.seq (q [x 4 (.i 0)] [] (.blk 0 K.qK)) (q [h 2 v2,u (.ca N.cG 0 [] [.l 0]),u (.bin .eql l0 (.i 0)),m l0,e 0 true v1,y 1 true (.ln l0),y 2 true (.bin .leq l0 (.i 32)),u (.pk l3 l0 (.b false)),x 3 l0] [] .ret))),res:=[(3,none)]}
def eI:C:= (.seq (.ite [m v2,m v0,u (.ln l0),u (.bin .lss l2 l0)] [] 0 .skip (.exit 0)) (.seq (.blk 1 (.ite [m v0,m v2,a 1 l1 l0,g l0,u (.bin .lss l0 (.i 1)),m l0,e 0 false v0,e 1 false v2,y 2 false (.ia l1 l0 1),i 3 false l0,y 4 false (.bin .gtr l0 (.i 65535)),u (.pk l5 (.b true) l0),m l0,e 0 false v0,e 1 false v2,y 2 false (.sc l1 none (some l0) 1),e 3 false v0,e 4 false v2,y 5 false (.ia l1 l0 1),i 6 false l0,y 7 false (.ca N.iL 0 [] [.l 4,.l 0]),u (.pk l8 (.b true) l0)] [] 0 (q [x 1 (.b false)] [] .ret) .skip)) (.reg [m v2,u (.bin .add l0 (.i 1)),x 2 l0] [])))
def rJ:C:= .loop true [1] K.eI
def dG:Fn:= { aD:=1,vars:=[0,2,3],body:=(q [x 1 (.b false)] [] (.seq (q [x 2 (.i 0)] [] (.blk 0 K.rJ)) (q [x 1 (.b true)] [] .ret))),res:=[(1,none)]}
def qL:C:= (.seq (.ite [m v4,f 5 v1,g l0,u (.ln l0),u (.bin .lss l3 l0)] [] 0 .skip (.exit 0)) (.seq (.blk 1 (q [f 5 v1,g l0,m v4,a 4 l1 l0,h 4 l0,w 5 (.al [.nil,z0,z0,z0] []),u (.st l0 l1 4 [])] [] (q [f 0 v5,g l0,u (.app (.c (.nil)) l0 true 1),f 0 v5,u (.st l0 l1 1 [])] [] (.reg [f 5 v3,g l0,h 4 v5,u (.bs [.l 0] 4),u (.app l2 l0 true 4),f 5 v3,u (.st l0 l1 1 [])] [])))) (.reg [m v4,u (.bin .add l0 (.i 1)),x 4 l0] [])))
def yy:C:= .loop true [0,5,6] K.qL
def qM:C:= (.seq (.ite [m v6,f 8 v1,g l0,u (.ln l0),u (.bin .lss l3 l0)] [] 0 .skip (.exit 2)) (.seq (.blk 3 (.reg [f 8 v3,g l0,f 8 v1,g l0,m v6,a 1 l1 l0,g l0,u (.app (.c (.nil)) l0 true 1),u (.bs [.l 0] 1),u (.app l7 l0 true 1),f 8 v3,u (.st l0 l1 1 [])] [(1,8),(1,9)])) (.reg [m v6,u (.bin .add l0 (.i 1)),x 6 l0] [])))
def yz:C:= .loop true [0,4,5] K.qM
def iG:Fn:= { aD:=1,vars:=[0,1,2,3,4,5,6],body:=(q [w 1 (.bx v0 9),w 2 (.al [.nil,.nil,z0,.nil,.nil,.nil,.nil,.nil,.nil] [])] [] (q [w 3 (.al [.nil,.nil,z0,.nil,.nil,.nil,.nil,.nil,.nil] [(5,4),(8,1)]),f 0 v1,h 2 l0,u (.ca N.iE 0 [] [.l 0]),f 2 v1,g l0,f 3 v1,g l0,u (.app (.c (.nil)) l0 true 3),f 4 v1,g l0,u (.app (.c (.nil)) l0 true 1),f 6 v1,g l0,u (.app (.c (.nil)) l0 true 1),f 7 v1,g l0,u (.app (.c (.nil)) l0 true 1),u (.bd [.nil,.nil,z0,.nil,.nil,.nil,.nil,.nil,.nil] [(0,2,.l 14),(2,1,.l 12),(3,1,.l 9),(4,1,.l 6),(6,1,.l 3),(7,1,.l 0)]),u (.st (.l 18) l0 9 [(5,4),(8,1)])] [(0,4),(0,9),(0,12),(0,15),(0,18),(5,1),(5,9),(5,12),(5,15),(5,18),(7,1),(10,1),(10,4),(13,1),(13,4),(13,9),(16,1),(16,4),(16,9),(16,12)] (.seq (q [x 4 (.i 0)] [] (.blk 0 K.yy)) (.seq (q [x 6 (.i 0)] [] (.blk 2 K.yz)) (q [h 9 v3,u (.st v2 l0 9 [])] [] .ret))))),res:=[(2,some (9,true))]}
def qN:C:= (.seq (.ite [m v5,f 3 v2,g l0,u (.ln l0),u (.bin .lss l3 l0)] [] 0 .skip (.exit 0)) (.seq (.blk 1 (.ite [f 3 v2,g l0,m v5,a 3 l1 l0,h 3 l0,f 3 v3,g l0,m v5,a 3 l1 l0,h 3 l0,u (.eqk (.ints 3) true l5 l0)] [] 0 (q [x 4 (.b false)] [] .ret) .skip)) (.reg [m v5,u (.bin .add l0 (.i 1)),x 5 l0] [])))
def yA:C:= .loop true [0,1,4,6,7,8,9] K.qN
def qO:C:= (.seq (.ite [m v6,f 5 v2,g l0,u (.ln l0),u (.bin .lss l3 l0)] [] 0 .skip (.exit 2)) (.seq (.blk 3 (q [w 7 (.al [.nil,z0,z0,z0] []),w 8 (.al [.nil,z0,z0,z0] []),f 5 v2,g l0,m v6,a 4 l1 l0,h 4 l0,f 5 v3,g l0,m v6,a 4 l1 l0,h 4 l0,u (.st l11 l5 4 []),u (.st l11 l1 4 [])] [(8,13),(10,13),(11,13)] (.ite [f 0 v7,g l0,f 0 v8,g l0,u (.ca N.aS 0 [] [.l 2,.l 0]),u (.un .not l0),m l0,y 0 false (.fa v7 1),i 1 false l0,y 2 false (.fa v8 1),i 3 false l0,y 4 false (.bin .neq l2 l0),u (.pk l5 (.b true) l0),m l0,y 0 false (.fa v7 2),i 1 false l0,y 2 false (.fa v8 2),i 3 false l0,y 4 false (.bin .neq l2 l0),u (.pk l5 (.b true) l0),m l0,y 0 false (.fa v7 3),i 1 false l0,y 2 false (.fa v8 3),i 3 false l0,y 4 false (.bin .neq l2 l0),u (.pk l5 (.b true) l0)] [] 0 (q [x 4 (.b false)] [] .ret) .skip))) (.reg [m v6,u (.bin .add l0 (.i 1)),x 6 l0] [])))
def yB:C:= .loop true [0,1,4,5,7,8,9] K.qO
def qP:C:= (.seq (.ite [m v9,f 8 v2,g l0,u (.ln l0),u (.bin .lss l3 l0)] [] 0 .skip (.exit 4)) (.seq (.blk 5 (.ite [f 8 v2,g l0,m v9,a 1 l1 l0,g l0,f 8 v3,g l0,m v9,a 1 l1 l0,g l0,u (.ca N.aS 0 [] [.l 5,.l 0]),u (.un .not l0)] [] 0 (q [x 4 (.b false)] [] .ret) .skip)) (.reg [m v9,u (.bin .add l0 (.i 1)),x 9 l0] [])))
def yC:C:= .loop true [0,1,4,5,6,7,8] K.qP
def jt:Fn:= { aD:=2,vars:=[0,1,2,3,4,5,6,7,8,9],body:=(q [w 2 (.bx v0 9),w 3 (.bx v1 9),x 4 (.b false)] [] (.seq (.ite [f 0 v2,h 2 l0,f 0 v3,h 2 l0,u (.ca N.cB 0 [] [.l 2,.l 0]),u (.un .not l0),m l0,y 0 false (.fa v2 2),i 1 false l0,y 2 false (.fa v3 2),i 3 false l0,y 4 false (.bin .neq l2 l0),u (.pk l5 (.b true) l0),m l0,y 0 false (.fa v2 3),i 1 false l0,y 2 false (.ln l0),y 3 false (.fa v3 3),i 4 false l0,y 5 false (.ln l0),y 6 false (.bin .neq l3 l0),u (.pk l7 (.b true) l0),m l0,y 0 false (.fa v2 4),i 1 false l0,y 2 false (.fa v3 4),i 3 false l0,y 4 false (.ca N.aS 0 [] [.l 2,.l 0]),y 5 false (.un .not l0),u (.pk l6 (.b true) l0),m l0,y 0 false (.fa v2 6),i 1 false l0,y 2 false (.fa v3 6),i 3 false l0,y 4 false (.ca N.aS 0 [] [.l 2,.l 0]),y 5 false (.un .not l0),u (.pk l6 (.b true) l0),m l0,y 0 false (.fa v2 7),i 1 false l0,y 2 false (.fa v3 7),i 3 false l0,y 4 false (.ca N.aS 0 [] [.l 2,.l 0]),y 5 false (.un .not l0),u (.pk l6 (.b true) l0),m l0,y 0 false (.fa v2 5),i 1 false l0,y 2 false (.ln l0),y 3 false (.fa v3 5),i 4 false l0,y 5 false (.ln l0),y 6 false (.bin .neq l3 l0),u (.pk l7 (.b true) l0),m l0,y 0 false (.fa v2 8),i 1 false l0,y 2 false (.ln l0),y 3 false (.fa v3 8),i 4 false l0,y 5 false (.ln l0),y 6 false (.bin .neq l3 l0),u (.pk l7 (.b true) l0)] [] 0 (q [x 4 (.b false)] [] .ret) .skip) (.seq (q [x 5 (.i 0)] [] (.blk 0 K.yA)) (.seq (q [x 6 (.i 0)] [] (.blk 2 K.yB)) (.seq (q [x 9 (.i 0)] [] (.blk 4 K.yC)) (q [x 4 (.b true)] [] .ret)))))),res:=[(4,none)]}
def zB:C:= (.its [u (.bin .lss v7 v6)] [] 0 .skip (.exit 0) (.seq (.blk 1 (q [a 1 v5 v7,g l0,x 4 l0] [] (.ite [m v4,f 3 v2,g l0,u (.ln l0),u (.bin .sub l0 (.i 1)),u (.ca N.bc 0 [] [.l 4,.i 0,.l 0]),u (.un .not l0)] [] 0 (q [x 3 (.i 19)] [] .ret) .skip))) (.reg [u (.bin .add v7 (.i 1)),x 7 l0] [])))
def AV:C:= .loop true [0,1,3,4] K.zB
def iV:Fn:= { aD:=2,vars:=[0,1,2,4,6,10,11,12],body:=(q [w 2 (.bx v0 9),x 3 (.i 0)] [] (.seq (.ite [h 9 v2,u (.ca N.fq 0 [] [.l 0]),u (.un .not l0)] [] 0 (q [x 3 (.i 6)] [] .ret) .skip) (.seq (q [x 5 v1,w 6 (.ln l0),x 7 (.i 0)] [] (.blk 0 K.AV)) (q [x 3 (.i 0)] [] .ret)))),res:=[(3,none)]}
def c7:Fn:= { aD:=3,vars:=[0,1,2,3,6,14],body:=(q [w 3 (.bx v0 2),x 4 (.i 0)] [] (.seq (.ite [m v1,f 1 v3,g l0,u (.ln l0),u (.bin .sub l0 (.i 1)),u (.ca N.bc 0 [] [.l 4,.i 0,.l 0]),u (.un .not l0)] [] 0 (q [w 4 (.mv (.i (-1)))] [] .ret) .skip) (.seq (q [x 5 v2] [] (.blk 0 (.ite [f 1 v3,g l0,m v1,a 10 l1 l0,f 0 l0,g l0,u (.bin .eql v5 l0),m l0] [] 0 (q [h 2 v3,m v1,u (.ca N.jR 0 [] [.l 1,.l 0,.b false]),x 4 l0] [] .ret) (.ite [f 1 v3,g l0,m v1,a 10 l1 l0,f 1 l0,g l0,u (.bin .eql v5 l0),m l0] [] 0 (q [h 2 v3,m v1,u (.ca N.jR 0 [] [.l 1,.l 0,.b true]),x 4 l0] [] .ret) .skip)))) (q [w 4 (.mv (.i (-1)))] [] .ret)))),res:=[(4,none)]}
def mL:C:= (.its [u (.bin .lss v7 v6)] [] 0 .skip (.exit 0) (.seq (.blk 1 (q [m v7,w 5 (.al [z0] []),u (.st l0 l1 1 [])] [] (.seq (.ite [f 6 v1,g l0,g v5,a 1 l1 l0,g l0,u (.ca N.bc 0 [] [.l 0,.i (-1),.i 65535]),u (.un .not l0),m l0,y 0 false (.fa v1 7),i 1 false l0,i 2 false v5,y 3 false (.ia l1 l0 1),i 4 false l0,y 5 false (.fa v1 2),i 6 false l0,y 7 false (.ca N.bc 0 [] [.l 2,.i (-1),.l 0]),y 8 false (.un .not l0),u (.pk l9 (.b true) l0),m l0,y 0 false (.fa v1 6),i 1 false l0,i 2 false v5,y 3 false (.ia l1 l0 1),i 4 false l0,y 5 false (.bin .eql l0 (.i (-1))),y 6 false (.fa v1 7),i 7 false l0,i 8 false v5,y 9 false (.ia l1 l0 1),i 10 false l0,y 11 false (.bin .eql l0 (.i (-1))),y 12 false (.eqk (.bool) true l6 l0),u (.pk (.l 13) (.b true) l0),m l0,y 0 false (.fa v1 8),i 1 false l0,i 2 false v5,y 3 false (.ia l1 l0 1),i 4 false l0,y 5 false (.ln l0),e 6 false v3,y 7 false (.bin .neq l1 l0),u (.pk l8 (.b true) l0)] [] 0 (q [x 2 (.b false)] [] .ret) .skip) (.ite [f 8 v1,g l0,g v5,a 1 l1 l0,g l0,u (.mf N.dN [.v 1,.v 5]),u (.ca N.ax 0 [] [.l 1,.l 0])] [] 0 (q [x 2 (.b false)] [] .ret) .skip)))) (.reg [u (.bin .add v7 (.i 1)),x 7 l0] [])))
def wN:C:= .loop true [0,2,4,5] K.mL
def fq:Fn:= { aD:=1,vars:=[0,1,2,3,4,5,65,66],body:=(q [w 1 (.bx v0 9),x 2 (.b false)] [] (q [f 3 v1,g l0,u (.ln l0),f 5 v1,g l0,u (.ln l0),x 3 l3,x 4 l1] [] (.seq (.ite [f 0 v1,h 2 l0,f 5 v1,g l0,u (.ca N.b6 0 [] [.l 2,.l 0]),u (.un .not l0),m l0,e 0 false v3,y 1 false (.ca N.bc 0 [] [.l 0,.i 1,.i 12]),y 2 false (.un .not l0),u (.pk l3 (.b true) l0),m l0,y 0 false (.fa v1 4),i 1 false l0,y 2 false (.ln l0),e 3 false v3,y 4 false (.bin .neq l1 l0),u (.pk l5 (.b true) l0),m l0,y 0 false (.fa v1 4),i 1 false l0,y 2 false (.ca N.fQ 0 [] [.l 0]),y 3 false (.un .not l0),u (.pk l4 (.b true) l0),m l0,y 0 false (.fa v1 2),i 1 false l0,y 2 false (.ca N.bc 0 [] [.l 0,.i 0,.i 2147483648]),y 3 false (.un .not l0),u (.pk l4 (.b true) l0),m l0,y 0 false (.fa v1 6),i 1 false l0,y 2 false (.ln l0),e 3 false v4,y 4 false (.bin .neq l1 l0),u (.pk l5 (.b true) l0),m l0,y 0 false (.fa v1 7),i 1 false l0,y 2 false (.ln l0),e 3 false v4,y 4 false (.bin .neq l1 l0),u (.pk l5 (.b true) l0),m l0,y 0 false (.fa v1 8),i 1 false l0,y 2 false (.ln l0),e 3 false v4,y 4 false (.bin .neq l1 l0),u (.pk l5 (.b true) l0)] [] 0 (q [x 2 (.b false)] [] .ret) .skip) (.seq (q [f 5 v1,g l0,w 6 (.ln l0),x 7 (.i 0)] [] (.blk 0 K.wN)) (q [f 3 v1,g l0,u (.mf N.dO [.v 1]),u (.ca N.az 0 [] [.l 1,.l 0]),u (.un .not l0),x 2 l0] [] .ret))))),res:=[(2,none)]}
def ju:Fn:= { aD:=3,vars:=[0,1,2,3,6,7,22],body:=(q [w 3 (.bx v0 2),x 4 (.i 0)] [] (.seq (.ite [m v1,u (.bin .lss l0 (.i 0)),m l0,e 0 false v1,y 1 false (.fa v3 1),i 2 false l0,y 3 false (.ln l0),y 4 false (.bin .geq l3 l0),u (.pk l5 (.b true) l0)] [] 0 (q [w 4 (.mv (.i (-1)))] [] .ret) .skip) (.seq (q [f 1 v3,g l0,m v1,a 10 l1 l0,h 10 l0,w 5 (.al [z0,z0,z0,z0,z1,z1,z0,z0,z0,z0] []),u (.st l0 l1 10 [])] [] (q [x 6 v2] [] (.blk 0 (.ite [f 0 v5,g l0,u (.bin .eql v6 l0),m l0] [] 0 (q [f 1 v5,g l0,x 4 l0] [] .ret) (.ite [f 1 v5,g l0,u (.bin .eql v6 l0),m l0] [] 0 (q [f 0 v5,g l0,x 4 l0] [] .ret) .skip))))) (q [w 4 (.mv (.i (-1)))] [] .ret)))),res:=[(4,none)]}
end Go.Ev.K
namespace Go.Ev
class eS [Lib]:Prop where
 kI:Lib.fs N.b6=some K.b6
 pD:Lib.fs N.dM=some K.dM
 qQ:Lib.fs N.fQ=some K.fQ
 qR:Lib.fs N.gG=some K.gG
 oN:Lib.fs N.dV=some K.dV
 oq:Lib.fs N.dG=some K.dG
 uS:Lib.fs N.iG=some K.iG
 uT:Lib.fs N.jt=some K.jt
 uU:Lib.fs N.iV=some K.iV
 qS:Lib.fs N.c7=some K.c7
 sU:Lib.fs N.fq=some K.fq
 uV:Lib.fs N.ju=some K.ju
namespace K
variable [Lib] [eS]
theorem kI:Lib.fs N.b6=some K.b6:=eS.kI
theorem pD:Lib.fs N.dM=some K.dM:=eS.pD
theorem qQ:Lib.fs N.fQ=some K.fQ:=eS.qQ
theorem qR:Lib.fs N.gG=some K.gG:=eS.qR
theorem oN:Lib.fs N.dV=some K.dV:=eS.oN
theorem oq:Lib.fs N.dG=some K.dG:=eS.oq
theorem uS:Lib.fs N.iG=some K.iG:=eS.uS
theorem uT:Lib.fs N.jt=some K.jt:=eS.uT
theorem uU:Lib.fs N.iV=some K.iV:=eS.uU
theorem qS:Lib.fs N.c7=some K.c7:=eS.qS
theorem sU:Lib.fs N.fq=some K.fq:=eS.sU
theorem uV:Lib.fs N.ju=some K.ju:=eS.uV
end K
end Go.Ev
namespace Go.Ev.K
open Go.Ev
def bP:Fn:= { aD:=2,vars:=[0,1,2,3],body:=(q [w 2 (.bx v0 4),x 3 (.b false)] [] (q [f 0 v2,g l0,u (.ln l0),u (.bin .eql l0 (.i 0)),m l0,y 0 false (.fa v2 0),i 1 false l0,y 2 false (.fa v1 0),i 3 false l0,y 4 false (.ln l0),y 5 false (.bin .sub l0 (.i 1)),y 6 false (.ca N.bM 0 [] [.l 4,.i 0,.l 0]),y 7 false (.un .not l0),u (.pk l8 (.b true) l0),m l0,y 0 false (.fa v2 1),i 1 false l0,y 2 false (.ca N.bc 0 [] [.l 0,.i 1,.i 600]),y 3 false (.un .not l0),u (.pk l4 (.b true) l0),m l0,y 0 false (.fa v2 2),i 1 false l0,y 2 false (.ca N.bc 0 [] [.l 0,.i 0,.i 10]),y 3 false (.un .not l0),u (.pk l4 (.b true) l0),m l0,y 0 false (.fa v2 3),i 1 false l0,y 2 false (.ca N.bc 0 [] [.l 0,.i 0,.i 60]),y 3 false (.un .not l0),u (.pk l4 (.b true) l0),x 3 l0] [] .ret)),res:=[(3,none)]}
def au:Fn:= { aD:=2,vars:=[0,1,4],body:=(q [x 2 (.b false)] [] (q [m v0,m v1,u (.ca N.aC 0 [] [.l 1,.l 0]),u (.bin .geq l0 (.i 0)),x 2 l0] [] .ret)),res:=[(2,none)]}
def ay:Fn:= { aD:=1,vars:=[0,2],body:=(q [w 1 (.mv (.c (.nil)))] [] (.itk [m v0,u (.eqk (.sl) false l0 (.c (.nil)))] [] 0 (q [w 1 (.nw 3)] [] .ret) .skip (q [u (.bsr [] 3),m v0,u (.app l1 l0 false 3),x 1 l0] [] .ret))),res:=[(1,none)]}
def dN:Fn:= { aD:=3,vars:=[0,1,2,4],body:=(q [x 3 (.b false)] [] (q [m v0,f 5 v1,g l0,g v2,a 4 l1 l0,f 2 l0,g l0,u (.ca N.bc 0 [] [.l 6,.i 0,.l 0]),u (.un .not l0),x 3 l0] [] .ret)),res:=[(3,none)]}
def az:Fn:= { aD:=2,vars:=[0,1,4],body:=(q [x 2 (.b false)] [] (q [m v0,m v1,u (.ca N.aJ 0 [] [.l 1,.l 0]),u (.bin .geq l0 (.i 0)),x 2 l0] [] .ret)),res:=[(2,none)]}
def dO:Fn:= { aD:=2,vars:=[0,1,2,3],body:=(q [w 2 (.bx v0 3),x 3 (.b false)] [] (q [f 0 v1,h 2 l0,h 3 v2,u (.ca N.eH 0 [] [.l 1,.l 0]),u (.un .not l0),x 3 l0] [] .ret)),res:=[(3,none)]}
def eH:Fn:= { aD:=2,vars:=[0,1,2,3,4],body:=(q [w 2 (.bx v0 2),w 3 (.bx v1 3),x 4 (.b false)] [] (.seq (.blk 0 (.ite [f 0 v3,g l0,f 0 v2,g l0,u (.ln l0),u (.bin .sub l0 (.i 1)),u (.ca N.bc 0 [] [.l 4,.i 0,.l 0]),u (.un .not l0),m l0] [] 0 (q [x 4 (.b false)] [] .ret) (.ite [f 1 v3,g l0,u (.bin .eql l0 (.i (-1))),m l0] [] 0 (q [f 2 v3,g l0,u (.bin .eql l0 (.i 0)),x 4 l0] [] .ret) .skip))) (q [h 2 v2,f 1 v3,g l0,f 0 v3,g l0,u (.ca N.c7 0 [] [.l 4,.l 2,.l 0]),u (.bin .geq l0 (.i 0)),m l0,y 0 true (.fa v3 2),i 1 true l0,y 2 true (.ca N.bc 0 [] [.l 0,.i 1,.i 2147483648]),u (.pk l3 l0 (.b false)),x 4 l0] [] .ret))),res:=[(4,none)]}
def bC:C:= (.its [u (.bin .lss v5 v4)] [] 0 .skip (.exit 0) (.seq (.blk 1 (q [m v5,x 3 l0] [] (.ite [m v1,m v0,m v3,a 4 l1 l0,h 4 l0,u (.cw l4 0 [] [.l 0])] [] 0 (q [m v3,x 2 l0] [] .ret) .skip))) (.reg [u (.bin .add v5 (.i 1)),x 5 l0] [])))
def dH:C:= .loop true [2,3] K.bC
def aC:Fn:= { aD:=2,vars:=[0,1,4,5,7,8],body:=(q [x 2 (.i 0)] [] (.seq (q [m v0,w 4 (.ln l0),x 5 (.i 0)] [] (.blk 0 K.dH)) (q [w 2 (.mv (.i (-1)))] [] .ret))),res:=[(2,none)]}
def bR:C:= (.its [u (.bin .lss v5 v4)] [] 0 .skip (.exit 0) (.seq (.blk 1 (q [m v5,x 3 l0] [] (.ite [m v1,m v0,m v3,a 3 l1 l0,h 3 l0,u (.cw l4 0 [] [.l 0])] [] 0 (q [m v3,x 2 l0] [] .ret) .skip))) (.reg [u (.bin .add v5 (.i 1)),x 5 l0] [])))
def fh:C:= .loop true [2,3] K.bR
def aJ:Fn:= { aD:=2,vars:=[0,1,4,5,7,8],body:=(q [x 2 (.i 0)] [] (.seq (q [m v0,w 4 (.ln l0),x 5 (.i 0)] [] (.blk 0 K.fh)) (q [w 2 (.mv (.i (-1)))] [] .ret))),res:=[(2,none)]}
def lF:C:= (.its [u (.bin .lss v8 v7)] [] 0 .skip (.exit 0) (.seq (.blk 1 (q [a 4 v6 v8,h 4 l0,w 4 (.al [.nil,z0,z0,z0] []),u (.st l0 l1 4 [])] [] (q [f 0 v4,g l0,u (.ca N.ai 0 [] [.l 0]),f 0 v4,u (.st l0 l1 1 [])] [] (.reg [f 5 v3,g l0,h 4 v4,u (.bs [.l 0] 4),u (.app l2 l0 true 4),f 5 v3,u (.st l0 l1 1 [])] [])))) (.reg [u (.bin .add v8 (.i 1)),x 8 l0] [])))
def qg:C:= .loop true [0,4,5,9,10,11] K.lF
def lG:C:= (.its [u (.bin .lss v11 v10)] [] 0 .skip (.exit 2) (.seq (.blk 3 (q [a 1 v9 v11,g l0,x 5 l0] [] (.reg [f 8 v3,g l0,m v5,u (.ca N.ai 0 [] [.l 0]),u (.bs [.l 0] 1),u (.app l3 l0 true 1),f 8 v3,u (.st l0 l1 1 [])] [(1,4),(1,5)]))) (.reg [u (.bin .add v11 (.i 1)),x 11 l0] [])))
def qh:C:= .loop true [0,1,4,5,6,7,8] K.lG
def c8:Fn:= { aD:=1,vars:=[0,1,2,3,5,7,29,30,31,56,57,58],body:=(q [w 1 (.bx v0 9),w 2 (.al [.nil,.nil,z0,.nil,.nil,.nil,.nil,.nil,.nil] [])] [] (q [h 9 v1,w 3 (.al [.nil,.nil,z0,.nil,.nil,.nil,.nil,.nil,.nil] [(5,4),(8,1)]),u (.st l0 l1 9 [])] [] (q [f 0 v1,f 0 l0,g l0,u (.ca N.aA 0 [] [.l 0]),f 0 v1,f 1 l0,g l0,u (.ca N.aB 0 [] [.l 0]),u (.bd [.nil,.nil] [(0,1,.l 4),(1,1,.l 0)]),f 0 v3,u (.st l0 l1 2 [])] [(6,0)] (q [f 3 v1,g l0,u (.ca N.ay 1 [] [.l 0]),f 4 v1,g l0,u (.ca N.ai 0 [] [.l 0]),f 3 v3,u (.st l0 l4 1 []),f 4 v3,u (.st l0 l3 1 [])] [(4,0)] (q [f 5 v3,u (.st l0 (.c (.nil)) 1 [(5,4)])] [] (.seq (q [f 5 v1,w 6 (.ld l0 1 false),w 7 (.ln l0),x 8 (.i 0)] [] (.blk 0 K.qg)) (q [f 6 v1,g l0,u (.ca N.ai 0 [] [.l 0]),f 7 v1,g l0,u (.ca N.ai 0 [] [.l 0]),f 6 v3,u (.st l0 l4 1 []),f 7 v3,u (.st l0 l3 1 [])] [(4,0)] (q [f 8 v3,u (.st l0 (.c (.nil)) 1 [(8,1)])] [] (.seq (q [f 8 v1,w 9 (.ld l0 1 false),w 10 (.ln l0),x 11 (.i 0)] [] (.blk 2 K.qh)) (q [h 9 v3,u (.st v2 l0 9 [])] [] .ret)))))))))),res:=[(2,some (9,true))]}
def xo:C:= (.its [u (.bin .lss v8 v7)] [] 0 .skip (.exit 0) (.seq (.blk 1 (q [a 4 v6 v8,h 4 l0,w 4 (.al [.nil,z0,z0,z0] []),u (.st l0 l1 4 [])] [] (q [f 0 v4,g l0,u (.ca N.ai 0 [] [.l 0]),f 0 v4,u (.st l0 l1 1 [])] [] (.reg [f 5 v3,g l0,h 4 v4,u (.bsr [.l 0] 4),u (.app l2 l0 false 4),f 5 v3,u (.st l0 l1 1 [])] [])))) (.reg [u (.bin .add v8 (.i 1)),x 8 l0] [])))
def yD:C:= .loop false [0,4,5,9,10,11] K.xo
def xq:C:= (.its [u (.bin .lss v11 v10)] [] 0 .skip (.exit 2) (.seq (.blk 3 (q [a 1 v9 v11,g l0,x 5 l0] [] (.reg [f 8 v3,g l0,m v5,u (.ca N.ai 1 [] [.l 0]),u (.bsr [.l 0] 1),u (.app l3 l0 false 1),f 8 v3,u (.st l0 l1 1 [])] [(1,4),(1,5)]))) (.reg [u (.bin .add v11 (.i 1)),x 11 l0] [])))
def yE:C:= .loop false [0,1,4,5,6,7,8] K.xq
def fR:Fn:= { aD:=1,vars:=[0,1,2,3,5,7,29,30,31,56,57,58],body:=(q [w 1 (.bx v0 9),w 2 (.al [.nil,.nil,z0,.nil,.nil,.nil,.nil,.nil,.nil] [])] [] (q [h 9 v1,w 3 (.al [.nil,.nil,z0,.nil,.nil,.nil,.nil,.nil,.nil] [(5,4),(8,1)]),u (.st l0 l1 9 [])] [] (q [f 0 v1,f 0 l0,g l0,u (.ca N.aA 0 [] [.l 0]),f 0 v1,f 1 l0,g l0,u (.ca N.aB 0 [] [.l 0]),u (.bd [.nil,.nil] [(0,1,.l 4),(1,1,.l 0)]),f 0 v3,u (.st l0 l1 2 [])] [(6,0)] (q [f 3 v1,g l0,u (.ca N.ay 0 [] [.l 0]),f 4 v1,g l0,u (.ca N.ai 0 [] [.l 0]),f 3 v3,u (.st l0 l4 1 []),f 4 v3,u (.st l0 l3 1 [])] [(4,0)] (q [f 5 v3,u (.st l0 (.c (.nil)) 1 [(5,4)])] [] (.seq (q [f 5 v1,w 6 (.ld l0 1 false),w 7 (.ln l0),x 8 (.i 0)] [] (.blk 0 K.yD)) (q [f 6 v1,g l0,u (.ca N.ai 1 [] [.l 0]),f 7 v1,g l0,u (.ca N.ai 1 [] [.l 0]),f 6 v3,u (.st l0 l4 1 []),f 7 v3,u (.st l0 l3 1 [])] [(4,0)] (q [f 8 v3,u (.st l0 (.c (.nil)) 1 [(8,1)])] [] (.seq (q [f 8 v1,w 9 (.ld l0 1 false),w 10 (.ln l0),x 11 (.i 0)] [] (.blk 2 K.yE)) (q [h 9 v3,u (.st v2 l0 9 [])] [] .ret)))))))))),res:=[(2,some (9,true))]}
end Go.Ev.K
namespace Go.Ev
class im [Lib]:Prop where
 lH:Lib.fs N.bP=some K.bP
 bW:Lib.fs N.au=some K.au
 cC:Lib.fs N.ay=some K.ay
 pE:Lib.fs N.dN=some K.dN
 cI:Lib.fs N.az=some K.az
 pF:Lib.fs N.dO=some K.dO
 pG:Lib.fs N.eH=some K.eH
 b9:Lib.fs N.aC=some K.aC
 cV:Lib.fs N.aJ=some K.aJ
 nu:Lib.fs N.c8=some K.c8
 rK:Lib.fs N.fR=some K.fR
namespace K
variable [Lib] [im]
theorem lH:Lib.fs N.bP=some K.bP:=im.lH
theorem bW:Lib.fs N.au=some K.au:=im.bW
theorem cC:Lib.fs N.ay=some K.ay:=im.cC
theorem pE:Lib.fs N.dN=some K.dN:=im.pE
theorem cI:Lib.fs N.az=some K.az:=im.cI
theorem pF:Lib.fs N.dO=some K.dO:=im.pF
theorem pG:Lib.fs N.eH=some K.eH:=im.pG
theorem b9:Lib.fs N.aC=some K.aC:=im.b9
theorem cV:Lib.fs N.aJ=some K.aJ:=im.cV
theorem nu:Lib.fs N.c8=some K.c8:=im.nu
theorem rK:Lib.fs N.fR=some K.fR:=im.rK
end K
end Go.Ev
namespace Go.Ev
open Go
variable [Lib] [bO] [bL] [dL] [dm] [hU] [dg] [dn] [eR] [dF] [bY] [b7] [dw] [dk] [fM] [fp] [jx] [eS] [im]
structure Rdr where
 pl:List Int
 per:Int
 miss:Int
 skew:Int
instance : Dat Rdr := ⟨⟨[], 0, 0, 0⟩⟩
abbrev Rdr.e(r:Rdr):T:= .agg [tL r.pl,tI r.per,tI r.miss,tI r.skew]
structure Wlk where
 place:Int
 IG:Int
 left:Int
instance : Dat Wlk := ⟨⟨0, 0, 0⟩⟩
abbrev Wlk.e(w:Wlk):T:= .agg [tI w.place,tI w.IG,tI w.left]
structure Tru where
 ox:bq
 time:Int
 people:List Wlk
 tags:List Int
 readers:List Rdr
 numbers:List Int
 looked:List Int
 missed:List (List Int)
abbrev tLL(l:List (List Int)):T:= .sl (l.map fun x=> .sl (x.map (T.int .i64)))
abbrev Tru.cs(x:Tru):List T:=[.sl (x.ox.aa.map Place.e),.sl (x.ox.roads.map Road.e),tI x.time,.sl (x.people.map Wlk.e),tL x.tags,.sl (x.readers.map Rdr.e),tL x.numbers,tL x.looked,tLL x.missed]
abbrev Tru.e(x:Tru):T:= .agg x.cs
structure Tru.sz(x:Tru):Prop where
 a:x.ox.aa.length≤1000000
 b:x.ox.roads.length≤1000000
 c:x.people.length≤1000000
 d:x.tags.length≤1000000
 r:x.readers.length≤1000000
 r2:∀y∈x.readers,y.pl.length≤1000000
 n:x.numbers.length≤1000000
 l:x.looked.length≤1000000
 m:x.missed.length≤1000000
 m2:∀y∈x.missed,y.length≤1000000
@[go_sem] theorem T8 (l : List Rdr) : bV 4 (l.map Rdr.e) = true := fF 4 _ (fun _ => rfl) l
@[go_sem] theorem ad3 (l : List Rdr) : nH 4 (l.map Rdr.e) = true := by cases l <;> rfl
@[go_sem] theorem T9 (l : List Wlk) : bV 3 (l.map Wlk.e) = true := fF 3 _ (fun _ => rfl) l
@[go_sem] theorem ad4 (l : List Wlk) : nH 3 (l.map Wlk.e) = true := by cases l <;> rfl
@[go_sem] theorem X0 (l : List (List Int)) : bV 1 (l.map fun x => T.sl (x.map (T.int .i64))) = true := fF 1 _ (fun _ => rfl) l
@[go_sem] theorem agK (l : List (List Int)) : nH 1 (l.map fun x => T.sl (x.map (T.int .i64))) = true := by cases l <;> rfl
structure Fp(n:Int)(r:Rdr):Prop where
 s:lQ r.pl n=true
 l:r.pl.length≤64
 l1:1≤r.pl.length
 p1:1≤r.per
 p2:r.per≤30
 m1:0≤r.miss
 m2:r.miss≤2
 k1:0≤r.skew
 k2:r.skew≤5
abbrev rdH(e:aT)(m:bq)(l:List Rdr):aq:=[e.obj,.box (ae m),.arr 4 false 0 ((l.map Rdr.e).map .t)]
def rdP(m:bq)(n:Int)(j:Nat)(st:St):Prop:=∃(e:aT) (l:List Rdr),e.dY∧l.length=j∧(∀r∈l,Fp m.aa.length r)∧st=⟨[.bp 0 0,.und,.bp 1 0,.und,.ref 2 0 l.length,I (n-j),.und],rdH e m l⟩
theorem bG{p n:Int}(h0:0≤p)(h1:p<n):lQ [p] n=true:=by
 unfold lQ
 simp only[List.length_singleton,aLx,aLu,decide_eq_true_eq]
 intro j hj
 obtain rfl:j=0:=by omega
 exact⟨h0,h1,fun h=>by omega⟩
theorem Hv{d:aT}(hd:d.dY){m:bq}(hm:m.ok)(h1:1≤m.aa.length){n:Int}(n0:0≤n)(n3:n≤3):∃(e:aT) (l:List Rdr),e.dY∧l.length≤3∧(∀r∈l,Fp m.aa.length r)∧
 ∀z1 z3 z6:D,exS aL K.oy ⟨[.bp 0 0,z1,.bp 1 0,z3,.ref 2 0 0,I n,z6],rdH d m []⟩=some (.exit 0,⟨[.bp 0 0,.und,.bp 1 0,.und,.ref 2 0 l.length,I 0,.und],rdH e m l⟩):=by
 have np:=hm.np
 have key:=Sa (gc:=true) (dead:=[1,3,6]) (c:=K.c9) (vs:=[.bp 0 0,.und,.bp 1 0,.und,.ref 2 0 0,I n,.und]) (H:=rdH d m [])
  (rdP m n) n.toNat (fun q=>∃(e:aT) (l:List Rdr),e.dY∧l.length=n.toNat∧(∀r∈l,Fp m.aa.length r)∧q=(.exit 0,⟨[.bp 0 0,.und,.bp 1 0,.und,.ref 2 0 l.length,I 0,.und],rdH e m l⟩))
  (by
   refine⟨d,[],hd,rfl,fun r hr=>(by cases hr),?_⟩
   simp only[mh,List.set_cons_zero,List.set_cons_succ,List.length_nil]
   rw[show n-((0:Nat):Int)=n by omega])
  (by
   rintro j st hj ⟨e,l,le,ll,lo,rfl⟩
   obtain⟨s,e1,s1,l1,sl,ss⟩:=ad2 le m.aa.length (by omega)
   obtain⟨o,e2,o1,l2,oi⟩:=Xx l1 [9,29,4] (by simp) (by simp)
   obtain⟨k,e3,k1,l3,k0,k3⟩:=mI l2 3 (by omega) (by omega)
   obtain⟨w,e4,w1,l4,wi⟩:=Xx l3 [0,1,5] (by simp) (by simp)
   have ob:4≤o∧o≤29:=by simp at oi;omega
   have wb:0≤w∧w≤5:=by simp at wi;omega
   simp only[tL,List.map_cons,List.map_nil]at o1 w1
   by_cases c:s.length=0
   · obtain⟨p,e5,p1,l5,p0,p9⟩:=mI l4 m.aa.length (by omega) (by omega)
     refine⟨_,?_,e5,l++[⟨[p],1+o,k,w⟩],l5,by simp[ll],fun r hr=>?_,rfl⟩
     · have s0:s=[]:=List.eq_nil_of_length_eq_zero c
       subst s0
       obtain⟨aa,roads⟩:=m
       simp only[ae,rdH,List.map_nil,List.length_nil]at*
       rw[show n-((j+1:Nat):Int)=n-(j:Int)-1 by omega]
       simp(disch:=omega)only[go_sem,K.c9,↓reduceIte,s1,o1,k1,w1,p1,aLv,List.length_cons,List.length_nil,List.map_append,List.map_cons,List.map_nil,reduceAdd,reduceSub]
       rfl
     · rcases List.mem_append.1 hr with hr | hr
       · exact lo r hr
       · rw[List.mem_singleton.1 hr]
         exact⟨bG p0 p9,by simp,by simp,by simp only;omega,by simp only;omega,k0,by simp only;omega,wb.1,wb.2⟩
   · refine⟨_,?_,e4,l++[⟨s,1+o,k,w⟩],l4,by simp[ll],fun r hr=>?_,rfl⟩
     · obtain⟨aa,roads⟩:=m
       simp only[ae,rdH]at*
       rw[show n-((j+1:Nat):Int)=n-(j:Int)-1 by omega]
       simp(disch:=omega)only[go_sem,K.c9,↓reduceIte,s1,o1,k1,w1,c,aLv,List.length_cons,List.length_nil,List.map_append,List.map_cons,List.map_nil,reduceAdd,reduceSub]
     · rcases List.mem_append.1 hr with hr | hr
       · exact lo r hr
       · rw[List.mem_singleton.1 hr]
         exact⟨ss,by simp only;omega,by simp only;omega,by simp only;omega,by simp only;omega,k0,by simp only;omega,wb.1,wb.2⟩
   )
  (by
   rintro st ⟨e,l,le,ll,lo,rfl⟩
   refine⟨_,?_,?_,e,l,le,ll,lo,rfl⟩
   · rw[show n-(n.toNat:Int)=0 by omega]
     obtain⟨aa,roads⟩:=m
     simp only[ae,rdH]
     simp(disch:=omega)only[go_sem,K.c9,↓reduceIte,reduceAdd,reduceSub]
   · simp)
 obtain⟨q,k1,e,l,k2,k3,k4,rfl⟩:=key
 refine⟨e,l,k2,by omega,k4,fun z1 z3 z6=>?_⟩
 have k1:oX true [1,3,6] (exS aL K.c9) ⟨[.bp 0 0,.und,.bp 1 0,.und,.ref 2 0 0,I n,.und],rdH d m []⟩=_:=k1
 exact Ow (gc:=true) (dead:=[1,3,6]) (c:=K.c9) (vs:=[.bp 0 0,z1,.bp 1 0,z3,.ref 2 0 0,I n,z6]) k1
theorem PB{d:aT}(hd:d.dY){m:bq}(hm:m.ok)(h1:1≤m.aa.length):∃(l:List Rdr) (e:aT),e.dY∧l.length≤3∧(∀r∈l,Fp m.aa.length r)∧
 aL 0 N.bZ [.bp 0 0,.t m.e] [d.obj]=some (.t (.sl (l.map Rdr.e)),[e.obj])∧aL 1 N.bZ [.bp 0 0,.t m.e] [d.obj]=some (.ref 1 0 l.length,[e.obj,.arr 4 false 0 ((l.map Rdr.e).map .t)]):=by
 obtain⟨n,e0,ne,l0,n0,n3⟩:=mI hd 4 (by omega) (by omega)
 obtain⟨e,l,le,ll,lo,lp⟩:=Hv l0 hm h1 n0 (by omega)
 refine⟨l,e,le,ll,lo,?_,?_⟩
 · refine aj K.jM rfl ?_
   obtain⟨aa,roads⟩:=m
   simp only[ae,rdH,List.map_nil]at*
   simp(disch:=omega)only[go_sem,K.bZ,↓reduceIte,ne,lp,reduceAdd,reduceSub]
 · refine aj K.jM rfl ?_
   obtain⟨aa,roads⟩:=m
   simp only[ae,rdH,List.map_nil]at*
   simp(disch:=omega)only[go_sem,K.bZ,↓reduceIte,ne,lp,reduceAdd,reduceSub]
end Go.Ev
