/- Parts of the proof: see the text that holds the theorem. -/
import Derived.Test.YtjibfckckknjkaaGreatZ5
set_option linter.all false
open Nat (reduceAdd reduceSub)
set_option maxRecDepth 100000
namespace Go.Ev.K
open Go.Ev
def oa:Fn:= { av:=8,vars:=[0,1,2,3,4,5,6,7,8,13,14,16,17,18,19,21,22,23,24],body:=(q [w 8 (.bx v0 2),w 9 (.bx v5 4),w 10 (.bx v6 3),w 11 (.al [.nil,.nil,z0,.nil,.nil,.nil,.nil,.nil,.nil,.nil,.nil,.nil,.nil,.nil,.nil,z0,.nil,z0,z0,.nil,.nil,.nil,.nil,.nil,z0,.nil,.nil,.nil,z1,z0,z0,z0,z0,.nil,.nil,.nil] []),x 12 (.i 0)] [] (q [h 2 v8,m v1,m v2,m v3,u (.ca N.ma 0 [] [.l 3,.l 2,.l 1,.l 0,.i 0]),m l0,u (.ex l0 0),u (.ex l1 1),w 13 (.al [.nil,.nil,z0,.nil,.nil,.nil,.nil,.nil,.nil] []),u (.st l0 l2 9 []),x 14 l2] [] (.seq (.ite [m v14,u (.bin .neq l0 (.i 0))] [] 0 (q [u (.bd [.nil,.nil,z0,.nil,.nil,.nil,.nil,.nil,.nil,.nil,.nil,.nil,.nil,.nil,.nil,z0,.nil,z0,z0,.nil,.nil,.nil,.nil,.nil,z0,.nil,.nil,.nil,z1,z0,z0,z0,z0,.nil,.nil,.nil] []),m v14,u (.st v11 l1 36 []),x 12 l1] [] .ret) .skip) (.seq (q [h 2 v8,m v4,u (.ca N.lM 0 [] [.l 1,.l 0,.c (.nil),.i 0]),m l0,u (.ex l0 0),u (.ex l1 1),u (.al [z0,.nil] []),u (.st l0 l2 2 []),x 15 l2] [] (.ite [m v15,u (.bin .neq l0 (.i 0)),m l0,y 0 false (.ld v8 2 true),y 1 false (.ld v9 4 true),y 2 false (.ca N.n9 0 [] [.l 1,.l 0]),y 3 false (.un .not l0),u (.pk l4 (.b true) l0),m l0,y 0 false (.ld v10 3 true),y 1 false (.bd [z0,z0,z0,z0] []),y 2 false (.ca N.fX 0 [] [.l 1,.l 0]),y 3 false (.un .not l0),u (.pk l4 (.b true) l0),m l0,y 0 false (.fa v10 0),i 1 false l0,y 2 false (.fa v10 0),i 3 false l0,y 4 false (.ln l0),y 5 false (.bin .sub l0 (.i 1)),y 6 false (.ia l4 l0 1),i 7 false l0,y 8 false (.fa v8 0),i 9 false l0,y 10 false (.ln l0),y 11 false (.bin .geq l3 l0),u (.pk (.l 12) (.b true) l0)] [] 0 (q [u (.bd [.nil,.nil,z0,.nil,.nil,.nil,.nil,.nil,.nil,.nil,.nil,.nil,.nil,.nil,.nil,z0,.nil,z0,z0,.nil,.nil,.nil,.nil,.nil,z0,.nil,.nil,.nil,z1,z0,z0,z0,z0,.nil,.nil,.nil] []),u (.st v11 l0 36 []),x 12 (.i 6)] [] .ret) .skip)) (.seq (.ite [m v7,u (.mf N.kc [.v 8]),u (.ca N.aq 0 [] [.l 1,.l 0])] [] 0 (q [u (.bd [.nil,.nil,z0,.nil,.nil,.nil,.nil,.nil,.nil,.nil,.nil,.nil,.nil,.nil,.nil,z0,.nil,z0,z0,.nil,.nil,.nil,.nil,.nil,z0,.nil,.nil,.nil,z1,z0,z0,z0,z0,.nil,.nil,.nil] []),u (.st v11 l0 36 []),x 12 (.i 4)] [] .ret) .skip) (q [m v7,u (.ca N.nW 0 [] [.l 0]),m l0,u (.ex l0 0),u (.ex l1 1),w 16 (.al [.nil,.nil,z1] []),u (.st l0 l2 3 []),x 14 l2] [] (.seq (.ite [m v14,u (.bin .neq l0 (.i 0))] [] 0 (q [u (.bd [.nil,.nil,z0,.nil,.nil,.nil,.nil,.nil,.nil,.nil,.nil,.nil,.nil,.nil,.nil,z0,.nil,z0,z0,.nil,.nil,.nil,.nil,.nil,z0,.nil,.nil,.nil,z1,z0,z0,z0,z0,.nil,.nil,.nil] []),m v14,u (.st v11 l1 36 []),x 12 l1] [] .ret) .skip) (q [h 2 v8,m v3,m v2,u (.ca N.lV 0 [] [.l 2,.l 1,.l 0,.i 0]),m l0,u (.ex l0 0),u (.ex l1 1),w 17 (.al [.nil] []),u (.st l0 l2 1 []),x 14 l2] [] (.seq (.ite [m v14,u (.bin .neq l0 (.i 0))] [] 0 (q [u (.bd [.nil,.nil,z0,.nil,.nil,.nil,.nil,.nil,.nil,.nil,.nil,.nil,.nil,.nil,.nil,z0,.nil,z0,z0,.nil,.nil,.nil,.nil,.nil,z0,.nil,.nil,.nil,z1,z0,z0,z0,z0,.nil,.nil,.nil] []),m v14,u (.st v11 l1 36 []),x 12 l1] [] .ret) .skip) (q [w 18 (.al [.nil,.nil,z0,.nil,.nil,.nil,.nil,.nil,.nil,.nil,.nil,.nil,.nil,.nil,.nil,z0,.nil,z0,z0,.nil,.nil,.nil,.nil,.nil,z0,.nil,.nil,.nil,z1,z0,z0,z0,z0,.nil,.nil,.nil] []),h 9 v13,h 2 v8,m v4,h 4 v9,h 3 v10,m v1,u (.ln l0),u (.mkt l0 (.agg [(.int .i64 (0)),(.int .i64 (0)),(.int .i64 (0)),(.sl [])]) 4),u (.ca N.n5 0 [] []),h 1 v17,h 3 v16,u (.bd [.nil,.nil,z0,.nil,.nil,.nil,.nil,.nil,.nil,.nil,.nil,.nil,.nil,.nil,.nil,z0,.nil,z0,z0,.nil,.nil,.nil,.nil,.nil,z0,.nil,.nil,.nil,z1,z0,z0,z0,z0,.nil,.nil,.nil] [(0,9,.l 10),(9,2,.l 9),(11,1,.l 8),(12,4,.l 7),(16,3,.l 6),(19,1,.l 3),(21,2,.l 2),(23,1,.l 1),(26,3,.l 0)]),u (.st (.l 12) l0 36 [])] [(0,10),(1,10),(2,10),(4,10),(5,10),(8,10),(10,1),(11,1)] (q [h 36 v18,u (.ca N.im 0 [] [.l 0]),u (.st v11 l0 36 []),x 12 (.i 0)] [] .ret))))))))))),res:=[(11,some (36,true)),(12,none)]}
def kc:Fn:= { av:=2,vars:=[0,1,3],body:=(q [x 2 (.b false)] [] (q [m v0,f 1 v1,g l0,u (.ln l0),u (.bin .sub l0 (.i 1)),u (.ca N.aU 0 [] [.l 4,.i 0,.l 0]),u (.un .not l0),x 2 l0] [] .ret)),res:=[(2,none)]}
def Gy:C:= (.its [u (.bin .lss v7 v6)] [] 0 .skip (.exit 0) (.seq (.blk 1 (q [a 7 v5 v7,h 7 l0,w 4 (.al [z0,z0,z0,z0,z0,z0,.nil] []),u (.st l0 l1 7 [])] [] (q [f 6 v4,g l0,u (.ca N.ah 0 [] [.l 0]),f 6 v4,u (.st l0 l1 1 [])] [] (.reg [f 35 v3,g l0,h 7 v4,u (.bs [.l 0] 7),u (.app l2 l0 true 7),f 35 v3,u (.st l0 l1 1 [])] [])))) (.reg [u (.bin .add v7 (.i 1)),x 7 l0] [])))
def HA:C:= .loop true [0,1,4] K.Gy
def im:Fn:= { av:=1,vars:=[0,1,2,3,5,102,103,104],body:=(q [w 1 (.bx v0 36),w 2 (.al [.nil,.nil,z0,.nil,.nil,.nil,.nil,.nil,.nil,.nil,.nil,.nil,.nil,.nil,.nil,z0,.nil,z0,z0,.nil,.nil,.nil,.nil,.nil,z0,.nil,.nil,.nil,z1,z0,z0,z0,z0,.nil,.nil,.nil] [])] [] (q [h 36 v1,w 3 (.al [.nil,.nil,z0,.nil,.nil,.nil,.nil,.nil,.nil,.nil,.nil,.nil,.nil,.nil,.nil,z0,.nil,z0,z0,.nil,.nil,.nil,.nil,.nil,z0,.nil,.nil,.nil,z1,z0,z0,z0,z0,.nil,.nil,.nil] [(35,7)]),u (.st l0 l1 36 [])] [] (q [f 0 v1,h 9 l0,u (.ca N.nY 0 [] [.l 0,.i 0]),m l0,u (.ex l0 0),u (.ex l1 1),f 0 v3,u (.st l0 l2 9 [])] [] (q [f 9 v1,f 0 l0,g l0,u (.ca N.aP 0 [] [.l 0]),f 9 v1,f 1 l0,g l0,u (.ca N.aS 0 [] [.l 0]),u (.bd [.nil,.nil] [(0,1,.l 4),(1,1,.l 0)]),f 9 v3,u (.st l0 l1 2 [])] [(6,0)] (q [f 11 v1,g l0,u (.ca N.bH 0 [] [.l 0]),f 11 v3,u (.st l0 l1 1 [])] [] (q [f 12 v1,f 0 l0,g l0,u (.ca N.ah 0 [] [.l 0]),f 12 v1,f 1 l0,g l0,u (.ca N.ah 0 [] [.l 0]),f 12 v1,f 2 l0,g l0,u (.ca N.ah 0 [] [.l 0]),f 12 v3,f 0 l0,u (.st l0 l10 1 []),f 12 v3,f 1 l0,u (.st l0 l9 1 []),f 12 v3,f 2 l0,u (.st l0 l8 1 [])] [(6,0),(10,0),(10,4)] (q [f 16 v1,f 0 l0,g l0,u (.ca N.ah 0 [] [.l 0]),f 16 v3,f 0 l0,u (.st l0 l2 1 [])] [] (q [f 19 v1,g l0,u (.ca N.iY 1 [] [.l 0]),f 20 v1,g l0,u (.ca N.iY 1 [] [.l 0]),f 19 v3,u (.st l0 l4 1 []),f 20 v3,u (.st l0 l3 1 [])] [(4,0)] (q [f 21 v1,f 0 l0,g l0,u (.ca N.ah 0 [] [.l 0]),f 21 v1,f 1 l0,g l0,u (.ca N.ah 0 [] [.l 0]),u (.bd [.nil,.nil] [(0,1,.l 4),(1,1,.l 0)]),f 21 v3,u (.st l0 l1 2 [])] [(6,0)] (q [f 23 v1,h 1 l0,u (.ca N.gK 0 [] [.l 0]),f 33 v1,h 1 l0,u (.ca N.gK 0 [] [.l 0]),f 23 v3,u (.st l0 l4 1 []),f 33 v3,u (.st l0 l3 1 [])] [(4,0)] (q [f 24 v1,f 1 l0,g l0,u (.ca N.ah 0 [] [.l 0]),f 24 v3,f 1 l0,u (.st l0 l2 1 [])] [] (q [f 26 v1,f 0 l0,g l0,u (.ca N.ah 0 [] [.l 0]),f 26 v1,f 1 l0,g l0,u (.ca N.ah 0 [] [.l 0]),f 26 v3,f 0 l0,u (.st l0 l6 1 []),f 26 v3,f 1 l0,u (.st l0 l5 1 [])] [(6,0)] (q [f 34 v1,g l0,u (.ca N.bC 0 [] [.l 0]),f 34 v3,u (.st l0 l1 1 [])] [] (q [f 35 v3,u (.st l0 (.c (.nil)) 1 [(35,7)])] [] (.seq (q [f 35 v1,w 5 (.ld l0 1 false),w 6 (.ln l0),x 7 (.i 0)] [] (.blk 0 K.HA)) (q [h 36 v3,u (.st v2 l0 36 [])] [] .ret)))))))))))))))),res:=[(2,some (36,true))]}
end Go.Ev.K
namespace Go.Ev
class VI [Lib]:Prop where
 DI:Lib.fs N.oa=some K.oa
 zt:Lib.fs N.kc=some K.kc
 BO:Lib.fs N.im=some K.im
namespace K
variable [Lib] [VI]
theorem DI:Lib.fs N.oa=some K.oa:=VI.DI
theorem zt:Lib.fs N.kc=some K.kc:=VI.zt
theorem BO:Lib.fs N.im=some K.im:=VI.BO
end K
end Go.Ev
namespace Go.Ev.K
open Go.Ev
def bH:Fn:= { av:=1,vars:=[0,2],body:=(q [w 1 (.mv (.c (.nil)))] [] (.itk [m v0,u (.eqk (.sl) false l0 (.c (.nil)))] [] 0 (q [w 1 (.nw 2)] [] .ret) .skip (q [u (.bsr [] 2),m v0,u (.app l1 l0 false 2),x 1 l0] [] .ret))),res:=[(1,none)]}
def D1:C:= (.its [u (.bin .lss v6 v5)] [] 0 .skip (.exit 0) (.seq (.blk 1 (q [a 4 v4 v6,h 4 l0,w 3 (.al [z0,z0,z0,.nil] []),u (.st l0 l1 4 [])] [] (q [f 3 v3,g l0,u (.ca N.ah 0 [] [.l 0]),f 3 v3,u (.st l0 l1 1 [])] [] (.reg [m v2,h 4 v3,u (.bs [.l 0] 4),u (.app l2 l0 true 4),x 2 l0] [])))) (.reg [u (.bin .add v6 (.i 1)),x 6 l0] [])))
def Gz:C:= .loop true [0,1,3] K.D1
def iY:Fn:= { av:=1,vars:=[0,2,3,5,6,7,8],body:=(q [w 1 (.mv (.c (.nil)))] [] (q [w 2 (.nw 4)] [] (.seq (q [x 4 v0,w 5 (.ln l0),x 6 (.i 0)] [] (.blk 0 K.Gz)) (q [m v2,x 1 l0] [] .ret)))),res:=[(1,none)]}
def CH:C:= (.its [u (.bin .lss v7 v6)] [] 0 .skip (.exit 0) (.seq (.blk 1 (q [a 2 v5 v7,h 2 l0,w 4 (.al [.nil,.nil] []),u (.st l0 l1 2 [])] [] (.reg [f 0 v3,g l0,h 2 v4,u (.ca N.lW 0 [] [.l 0]),u (.bs [.l 0] 2),u (.app l3 l0 true 2),f 0 v3,u (.st l0 l1 1 [])] [(1,4),(1,5)]))) (.reg [u (.bin .add v7 (.i 1)),x 7 l0] [])))
def D2:C:= .loop true [0,1,4] K.CH
def gK:Fn:= { av:=1,vars:=[0,1,2,3,5,7,8,9],body:=(q [w 1 (.bx v0 1),w 2 (.al [.nil] [])] [] (q [w 3 (.al [.nil] [(0,2)])] [] (.seq (q [f 0 v1,w 5 (.ld l0 1 false),w 6 (.ln l0),x 7 (.i 0)] [] (.blk 0 K.D2)) (q [h 1 v3,u (.st v2 l0 1 [])] [] .ret)))),res:=[(2,some (1,true))]}
def bC:Fn:= { av:=1,vars:=[0,2],body:=(q [w 1 (.mv (.c (.nil)))] [] (.itk [m v0,u (.eqk (.sl) false l0 (.c (.nil)))] [] 0 (q [w 1 (.nw 9)] [] .ret) .skip (q [u (.bsr [] 9),m v0,u (.app l1 l0 false 9),x 1 l0] [] .ret))),res:=[(1,none)]}
def oc:Fn:= { av:=1,vars:=[0,1,2],body:=(q [w 1 (.bx v0 36),x 2 (.b false)] [] (q [f 0 v1,h 9 l0,u (.ca N.ko 0 [] [.l 0]),m l0,y 0 true (.fa v1 9),y 1 true (.ld l0 2 true),y 2 true (.ca N.cM 0 [] [.l 0]),u (.pk l3 l0 (.b false)),m l0,y 0 true (.fa v1 19),i 1 true l0,y 2 true (.ln l0),y 3 true (.fa v1 0),y 4 true (.fa l0 5),i 5 true l0,y 6 true (.ln l0),y 7 true (.bin .eql l4 l0),u (.pk l8 l0 (.b false)),m l0,y 0 true (.fa v1 11),i 1 true l0,y 2 true (.ln l0),y 3 true (.fa v1 9),y 4 true (.fa l0 1),i 5 true l0,y 6 true (.ln l0),y 7 true (.bin .eql l4 l0),u (.pk l8 l0 (.b false)),m l0,y 0 true (.fa v1 23),y 1 true (.fa l0 0),i 2 true l0,y 3 true (.ln l0),y 4 true (.bin .gtr l0 (.i 0)),u (.pk l5 l0 (.b false)),m l0,y 0 true (.fa v1 26),y 1 true (.ld l0 3 true),y 2 true (.ca N.gY 0 [] [.l 0]),u (.pk l3 l0 (.b false)),x 2 l0] [] .ret)),res:=[(2,none)]}
def eJ:Fn:= { av:=2,vars:=[0,1,3,4],body:= .fail,res:=[(3,none)]}
def eL:Fn:= { av:=2,vars:=[0,1,3,4],body:=(q [w 2 (.bx v1 4),x 3 (.i 0)] [] (.seq (.ite [m v0,u (.nc l0),f 0 l0,f 26 l0,h 3 l0,u (.ca N.lT 0 [] [.l 0]),f 2 v2,g l0,u (.ca N.aO 0 [] [.l 2,.l 0])] [(7,0)] 0 (q [x 3 (.i 47)] [] .ret) .skip) (q [m v0,m v0,u (.nc l0),f 0 l0,f 0 l0,h 9 l0,f 1 v2,g l0,f 2 v2,g l0,f 3 v2,g l0,u (.ca N.mh 0 [] [.l 6,.l 4,.l 2,.l 0]),m l0,u (.ex l0 0),u (.ex l1 1),u (.nc (.l 15)),f 0 l0,f 0 l0,u (.st l0 l4 9 []),x 3 l4] [] (q [m v3,x 3 l0] [] .ret)))),res:=[(3,none)]}
def eM:Fn:= { av:=2,vars:=[0,1,3,4,5,6,7],body:= .fail,res:=[(3,none)]}
def eO:Fn:= { av:=2,vars:=[0,1,2,3,4,5,6,7,8,9,11,13,133,134,135,152,153,154],body:= .fail,res:=[(4,none)]}
def eQ:Fn:= { av:=2,vars:=[4],body:= .fail,res:=[(0,none)]}
def eR:Fn:= { av:=2,vars:=[4],body:= .fail,res:=[(0,none)]}
def eT:Fn:= { av:=2,vars:=[4],body:= .fail,res:=[(0,none)]}
def eU:Fn:= { av:=2,vars:=[4],body:= .fail,res:=[(0,none)]}
def eV:Fn:= { av:=2,vars:=[4],body:= .fail,res:=[(0,none)]}
def dv:Fn:= { av:=1,vars:=[0,2],body:=(q [x 1 (.i 0)] [] (q [m v0,u (.nc l0),f 0 l0,f 0 l0,f 2 l0,g l0,x 1 l0] [] .ret)),res:=[(1,none)]}
end Go.Ev.K
namespace Go.Ev
class xU [Lib]:Prop where
 jw:Lib.fs N.bH=some K.bH
 zu:Lib.fs N.iY=some K.iY
 xV:Lib.fs N.gK=some K.gK
 iB:Lib.fs N.bC=some K.bC
 DJ:Lib.fs N.oc=some K.oc
 vT:Lib.fs N.eJ=some K.eJ
 vU:Lib.fs N.eL=some K.eL
 vV:Lib.fs N.eM=some K.eM
 vW:Lib.fs N.eO=some K.eO
 vX:Lib.fs N.eQ=some K.eQ
 vY:Lib.fs N.eR=some K.eR
 vZ:Lib.fs N.eT=some K.eT
 wc:Lib.fs N.eU=some K.eU
 we:Lib.fs N.eV=some K.eV
 uu:Lib.fs N.dv=some K.dv
namespace K
variable [Lib] [xU]
theorem jw:Lib.fs N.bH=some K.bH:=xU.jw
theorem zu:Lib.fs N.iY=some K.iY:=xU.zu
theorem xV:Lib.fs N.gK=some K.gK:=xU.xV
theorem iB:Lib.fs N.bC=some K.bC:=xU.iB
theorem DJ:Lib.fs N.oc=some K.oc:=xU.DJ
theorem vT:Lib.fs N.eJ=some K.eJ:=xU.vT
theorem vU:Lib.fs N.eL=some K.eL:=xU.vU
theorem vV:Lib.fs N.eM=some K.eM:=xU.vV
theorem vW:Lib.fs N.eO=some K.eO:=xU.vW
theorem vX:Lib.fs N.eQ=some K.eQ:=xU.vX
theorem vY:Lib.fs N.eR=some K.eR:=xU.vY
theorem vZ:Lib.fs N.eT=some K.eT:=xU.vZ
theorem wc:Lib.fs N.eU=some K.eU:=xU.wc
theorem we:Lib.fs N.eV=some K.eV:=xU.we
theorem uu:Lib.fs N.dv=some K.dv:=xU.uu
end K
end Go.Ev
