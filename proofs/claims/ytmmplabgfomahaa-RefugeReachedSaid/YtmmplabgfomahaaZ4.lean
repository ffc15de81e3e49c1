/- Parts of the proof: see the text that holds the theorem. -/
import Derived.Test.YtmmplabgfomahaaZ3
set_option linter.all false
open Nat (reduceAdd reduceSub)
set_option maxRecDepth 100000
namespace Go.Ev.K
open Go.Ev
def dq:C:= (.seq (.ite [m v10,f 0 v3,g l0,u (.ln l0),u (.bin .lss l3 l0)] [] 0 .skip (.exit 0)) (.seq (.blk 1 (.reg [m v9,u (.bs [.i 1099511627776] 1),u (.app l1 l0 true 1),x 9 l0] [])) (.reg [m v10,u (.bin .add l0 (.i 1)),x 10 l0] [])))
def eW:C:= .loop true [0,1,2,11,12,13,14,15,16] K.dq
def aP:C:= (.seq (.ite [m v12,f 1 v3,g l0,u (.ln l0),u (.bin .lss l3 l0)] [] 0 .skip (.exit 4)) (.seq (.blk 5 (q [f 1 v3,g l0,m v12,a 10 l1 l0,f 0 l0,g l0,f 1 v3,g l0,m v12,a 10 l1 l0,f 1 l0,g l0,x 13 l6,x 14 l1] [] (.seq (q [h 2 v3,m v12,u (.ca N.bX 0 [] [.l 1,.l 0,.b false]),x 15 l0] [] (.ite [m v15,u (.bin .geq l0 (.i 0)),m l0,y 0 true (.fa v4 2),i 1 true l0,e 2 true v12,y 3 true (.ca N.dM 0 [] [.l 1,.l 0]),y 4 true (.un .not l0),u (.pk l5 l0 (.b false))] [] 0 (.reg [m v9,m v14,m v9,m v14,a 1 l1 l0,g l0,m v9,m v13,a 1 l1 l0,g l0,m v15,u (.bin .add l1 l0),u (.mn [.l 6,.l 0]),a 1 (.l 12) l11,u (.st l0 l1 1 [])] []) .skip)) (q [h 2 v3,m v12,u (.ca N.bX 0 [] [.l 1,.l 0,.b true]),x 16 l0] [] (.ite [m v16,u (.bin .geq l0 (.i 0)),m l0,y 0 true (.fa v4 2),i 1 true l0,e 2 true v12,y 3 true (.ca N.dM 0 [] [.l 1,.l 0]),y 4 true (.un .not l0),u (.pk l5 l0 (.b false))] [] 0 (.reg [m v9,m v13,m v9,m v13,a 1 l1 l0,g l0,m v9,m v14,a 1 l1 l0,g l0,m v16,u (.bin .add l1 l0),u (.mn [.l 6,.l 0]),a 1 (.l 12) l11,u (.st l0 l1 1 [])] []) .skip))))) (.reg [m v12,u (.bin .add l0 (.i 1)),x 12 l0] [])))
def eX:C:= .loop true [0,1,2,10,13,14,15,16] K.aP
def dt:C:= (.seq (.ite [m v11,f 0 v3,g l0,u (.ln l0),u (.bin .lss l3 l0)] [] 0 .skip (.exit 2)) (.seq (.blk 3 (q [x 12 (.i 0)] [] (.blk 4 K.eX))) (.reg [m v11,u (.bin .add l0 (.i 1)),x 11 l0] [])))
def eY:C:= .loop true [0,1,2,10,12,13,14,15,16] K.dt
def aE:Fn:= { bK:=1,vars:=[0,2,3,4,5,6,7,8,9,10,11,12,13,14,15,16,17],body:=(q [x 1 (.b false)] [] (.seq (.ite [m v0,u (.ca N.dA 0 [] [.l 0]),u (.un .not l0)] [] 0 (q [u (.ca N.c8 0 [] []),x 1 l0] [] .ret) .skip) (q [m v0,u (.ca N.dX 0 [] [.l 0]),x 2 l0] [] (q [m v2,u (.ca N.bB 0 [] [.l 0]),w 3 (.al [.nil,.nil] []),u (.st l0 l1 2 [])] [] (q [m v2,h 2 v3,u (.ca N.bC 0 [] [.l 1,.l 0]),w 4 (.al [.nil,.nil,.nil,z0] []),u (.st l0 l1 4 [])] [] (q [m v2,f 0 v3,g l0,u (.ln l0),u (.ca N.aq 0 [] [.l 3,.l 0]),m v2,f 0 v3,g l0,u (.ln l0),u (.ca N.aq 0 [] [.l 3,.l 0]),x 5 l5,x 6 l1] [(7,0)] (q [h 2 v3,h 4 v4,m v6,u (.bd [z0,z0] [(0,1,.l 0),(1,1,.i 1)]),u (.bs [.l 0] 2),m v5,u (.bs [.l 0] 1),u (.ca N.b9 0 [] [.l 6,.l 5,.l 2,.l 0]),m l0,u (.ex l0 0),u (.ex l1 1),x 7 l1,x 8 l1] [] (q [w 9 (.nw 1)] [] (.seq (q [x 10 (.i 0)] [] (.blk 0 K.eW)) (q [m v9,m v5,a 1 l1 l0,u (.st l0 (.i 0) 1 [])] [] (.seq (q [x 11 (.i 0)] [] (.blk 2 K.eY)) (q [u (.ca N.c8 0 [] []),m l0,e 0 true v8,y 1 true (.bin .eql l0 (.i 0)),u (.pk l2 l0 (.b false)),m l0,e 0 true v7,y 1 true (.ln l0),y 2 true (.bin .eql l0 (.i 0)),e 3 true l0,e 0 false v9,e 1 false v6,y 2 false (.ia l1 l0 1),i 3 false l0,y 4 false (.ld v3 2 true),e 5 false v5,y 6 false (.ca N.dO 0 [] [.l 1,.l 0]),y 7 false (.bin .add l3 l0),y 8 false (.fa v4 3),i 9 false l0,y 10 false (.bin .leq l2 l0),y 15 true (.pk l11 (.b true) l0),u (.pk (.l 16) l0 (.b false)),m l0,e 0 true v5,e 1 true v6,y 2 true (.bin .neq l1 l0),e 3 true l0,e 0 false v7,y 1 false (.ln l0),y 2 false (.bin .eql l0 (.i 1)),y 3 false (.ld v3 2 true),e 4 false v5,y 5 false (.ca N.dO 0 [] [.l 1,.l 0]),y 6 false (.fa v4 3),i 7 false l0,y 8 false (.bin .leq l2 l0),y 9 false (.eqk (.bool) false l6 l0),y 14 true (.pk l10 (.b true) l0),u (.pk (.l 15) l0 (.b false)),x 1 l0] [(12,17),(13,17),(19,1),(35,17)] .ret)))))))))))),res:=[(1,none)]}
def c8:Fn:= { bK:=0,vars:=[0,1,2,3],body:=(q [x 0 (.b false)] [] (q [u (.bs [.i 0,.i 1] 1),u (.bs [.i 0] 1),u (.bs [.l 1,.l 0] 1),u (.bs [.i 1,.i 1] 1),u (.ca N.cX 0 [] [.l 1,.l 0]),m l0,u (.ex l0 0),u (.ex l1 1),x 1 l1,x 2 l1] [] (q [u (.bs [.i 0] 1),u (.bs [.i 0] 1),u (.bs [.l 1,.l 0] 1),u (.bs [.i 1] 1),u (.ca N.dk 0 [] [.l 1,.l 0]),x 3 l0] [] (q [u (.bs [.i 0] 1),u (.bs [.i 0] 1),u (.bs [.l 1,.l 0] 1),u (.bs [.i 1] 1),u (.ca N.cI 0 [] [.l 1,.l 0]),u (.bin .eql l0 (.i 1)),m l0,e 0 true v2,u (.pk l1 l0 (.b false)),m l0,e 0 true v1,y 1 true (.ln l0),y 2 true (.bin .eql l0 (.i 2)),u (.pk l3 l0 (.b false)),m l0,e 0 true v1,y 1 true (.ia l0 (.i 0) 1),i 2 true l0,y 3 true (.bin .eql l0 (.i 1)),u (.pk l4 l0 (.b false)),m l0,e 0 true v1,y 1 true (.ia l0 (.i 1) 1),i 2 true l0,y 3 true (.bin .eql l0 (.i 0)),u (.pk l4 l0 (.b false)),m l0,e 0 true v3,y 1 true (.ln l0),y 2 true (.bin .eql l0 (.i 2)),u (.pk l3 l0 (.b false)),x 0 l0] [] .ret)))),res:=[(0,none)]}
def mG:C:= (.its [u (.bin .lss v14 v13)] [] 0 .skip (.exit 2) (.seq (.blk 3 (q [a 1 v12 v14,g l0,x 8 l0] [] (.seq (.ite [m v8,m v4,u (.ln l0),u (.bin .sub l0 (.i 1)),u (.ca N.dH 0 [] [.l 3,.i 0,.l 0]),u (.un .not l0),m l0,e 0 false v4,e 1 false v8,y 2 false (.ia l1 l0 1),i 3 false l0,y 4 false (.bin .lss l0 (.i 1)),u (.pk l5 (.b true) l0)] [] 0 (.exit 3) .skip) (q [m v4,m v8,a 1 l1 l0,g l0,u (.bin .sub l0 (.i 1)),a 1 l4 l3,u (.st l0 l1 1 [])] [] (.seq (.ite [m v0,m v6,u (.bin .add l0 (.i 1)),u (.sc l2 (some l0) none 1),m v4,u (.ca N.cI 0 [1] [.l 1,.l 0]),m v0,u (.ln l0),m v6,u (.bin .sub l1 l0),u (.bin .sub l0 (.i 1)),u (.bin .eql l5 l0)] [] 0 (q [m v5,m v8,u (.bs [.l 0] 1),u (.app l2 l0 true 1),x 5 l0] [] (.exit 2)) .skip) (.reg [m v4,m v8,a 1 l1 l0,g l0,u (.bin .add l0 (.i 1)),a 1 l4 l3,u (.st l0 l1 1 [])] [])))))) (.reg [u (.bin .add v14 (.i 1)),x 14 l0] [])))
def nC:C:= .loop true [1,2,3,7,8] K.mG
def mH:C:= (.its [u (.bin .lss v11 v10)] [] 0 .skip (.exit 0) (.seq (.blk 1 (q [m v11,a 1 v9 v11,g l0,x 6 l2,x 7 l1] [] (q [m v7,u (.ca N.bh 0 [] [.l 0]),u (.ca N.bO 0 [] [.l 0]),w 12 (.ca N.aU 0 [0] [.l 0]),w 13 (.ln l0),x 14 (.i 0)] [] (.blk 2 K.nC)))) (.reg [u (.bin .add v11 (.i 1)),x 11 l0] [])))
def nD:C:= .loop true [1,2,3,6,7,8,12,13,14] K.mH
def cX:Fn:= { bK:=2,vars:=[0,1,4,5,6,7,8,9,11,20,21,22,30,31,32],body:=(q [w 2 (.mv (.c (.nil))),x 3 (.b false)] [] (.seq (.ite [m v0,m v1,u (.ca N.cI 0 [1] [.l 1,.l 0]),m v0,u (.ln l0),u (.bin .lss l2 l0)] [] 0 (q [w 2 (.mv (.c (.nil))),x 3 (.b false)] [] .ret) .skip) (q [m v1,u (.ca N.bq 1 [] [.l 0]),x 4 l0] [] (q [w 5 (.nw 1)] [] (.seq (q [x 9 v0,w 10 (.ln l0),x 11 (.i 0)] [] (.blk 0 K.nD)) (q [m v5,x 2 l0,x 3 (.b true)] [] .ret)))))),res:=[(2,none),(3,none)]}
def oU:C:= (.its [u (.bin .lss v7 v6)] [] 0 .skip (.exit 0) (.seq (.blk 1 (q [m v7,x 5 l0] [] (.ite [m v5,m v1,u (.ln l0),u (.mk l0 (z1) 1),u (.ca N.aO 0 [2] [.v 3,.l 3,.l 0])] [] 0 (.reg [m v4,u (.bin .add l0 (.i 1)),x 4 l0] []) .skip))) (.reg [u (.bin .add v7 (.i 1)),x 7 l0] [])))
def pv:C:= .loop false [0,2,5] K.oU
def cI:Fn:= { bK:=2,vars:=[0,1,4,5,6,7,15,16],body:=(q [x 2 (.i 0)] [] (q [m v0,m v1,m v1,u (.ln l0),u (.mk l0 .nil 1),u (.bd [.nil,.nil,.nil] [(0,1,.l 4),(1,1,.l 3),(2,1,.l 0)]),w 3 (.al [.nil,.nil,.nil] []),u (.st l0 l1 3 [])] [] (q [x 4 (.i 0)] [] (.seq (q [m v0,w 6 (.ln l0),x 7 (.i 0)] [] (.blk 0 K.pv)) (q [m v4,x 2 l0] [] .ret))))),res:=[(2,none)]}
def nE:C:= (.seq (.ite [m v3,m v0,u (.ln l0),u (.mn [.l 0,.i 12]),u (.bin .leq l3 l0)] [] 0 .skip (.exit 0)) (.seq (.blk 1 (q [m v0,m v1,m v3,u (.ca N.dn 1 [] [.l 2,.l 1,.c (.nil),.i 0,.l 0]),x 4 l0] [] (.ite [m v4,u (.eqk (.sl) true l0 (.c (.nil)))] [] 0 (q [m v4,x 2 l0] [] .ret) .skip))) (.reg [m v3,u (.bin .add l0 (.i 1)),x 3 l0] [])))
def oV:C:= .loop true [2,4] K.nE
def dk:Fn:= { bK:=2,vars:=[0,1,4,5,6],body:=(q [w 2 (.mv (.c (.nil)))] [] (.seq (q [x 3 (.i 1)] [] (.blk 0 K.oV)) (q [w 2 (.mv (.c (.nil)))] [] .ret))),res:=[(2,none)]}
def b9:Fn:= { bK:=4,vars:=[0,1,2,3,4,5,6,7,8,9],body:=(q [w 4 (.bx v0 2),w 5 (.bx v1 4),w 6 (.bx v2 1),w 7 (.bx v3 1),w 8 (.mv (.c (.nil))),x 9 (.i 0)] [] (.seq (.blk 0 (.ite [h 2 v4,h 4 v5,u (.ca N.dD 0 [] [.l 1,.l 0]),u (.un .not l0),m l0,y 0 false (.ld v4 2 true),i 1 false v6,y 2 false (.ca N.cb 0 [] [.l 1,.l 0]),y 3 false (.un .not l0),u (.pk l4 (.b true) l0),m l0] [] 0 (q [w 8 (.mv (.c (.nil))),x 9 (.i 6)] [] .ret) (.ite [g v7,u (.ln l0),u (.bin .eql l0 (.i 0)),m l0,i 0 false v7,y 1 false (.fa v4 0),i 2 false l0,y 3 false (.ln l0),y 4 false (.bin .sub l0 (.i 1)),y 5 false (.ca N.bN 0 [] [.l 4,.i 0,.l 0]),y 6 false (.un .not l0),u (.pk l7 (.b true) l0),m l0] [] 0 (q [w 8 (.mv (.c (.nil))),x 9 (.i 3)] [] .ret) .skip))) (q [g v6,u (.ln l0),u (.mf N.bo [.v 4,.v 5,.v 6,.v 7]),u (.ca N.cG 0 [] [.l 1,.l 0]),x 8 l0,x 9 (.i 0)] [] .ret))),res:=[(8,none),(9,none)]}
def iU:C:= (.its [u (.bin .lss v12 v11)] [] 0 .skip (.exit 2) (.seq (.blk 3 (q [m v12,a 1 v10 v12,g l0,x 5 l2,x 6 l1] [] (.ite [m v0,m v6,m v2,u (.ca N.aO 0 [2] [.l 2,.l 1,.l 0])] [] 0 (q [m v0,u (.nc l0),f 2 l0,g l0,m v4,a 1 l1 l0,g l0,m v5,m v1,a 1 l2 l1,u (.st l0 l1 1 [])] [] (q [x 3 (.b true)] [] .ret)) .skip))) (.reg [u (.bin .add v12 (.i 1)),x 12 l0] [])))
def jr:C:= .loop true [3,5,6] K.iU
def iV:C:= (.its [u (.bin .lss v9 v8)] [] 0 .skip (.exit 0) (.seq (.blk 1 (q [a 1 v7 v9,g l0,x 4 l0] [] (.seq (.ite [m v4,m v0,u (.nc l0),f 1 l0,g l0,u (.ln l0),u (.bin .sub l0 (.i 1)),u (.ca N.dH 0 [] [.l 6,.i 0,.l 0]),u (.un .not l0),m l0,e 0 false v2,e 1 false v4,y 2 false (.ia l1 l0 1),i 3 false l0,u (.pk l4 (.b true) l0)] [] 0 (.exit 1) .skip) (q [m v2,m v4,a 1 l1 l0,u (.st l0 (.b true) 1 [])] [] (.seq (.ite [m v0,u (.nc l0),f 2 l0,g l0,m v4,a 1 l1 l0,g l0,u (.ln l0),m v0,u (.nc l0),f 1 l0,g l0,m v4,a 1 l1 l0,g l0,u (.bin .lss l7 l0)] [] 0 (q [m v0,u (.nc l0),f 2 l0,g l0,m v4,m v0,u (.nc l0),f 2 l0,g l0,m v4,a 1 l1 l0,g l0,m v1,u (.bs [.l 0] 1),u (.app l2 l0 true 1),a 1 l11 l10,u (.st l0 l1 1 [])] [(3,14),(3,15),(8,14),(10,14),(11,14)] (q [x 3 (.b true)] [] .ret)) .skip) (q [m v0,u (.nc l0),f 2 l0,g l0,m v4,a 1 l1 l0,w 10 (.ld l0 1 false),w 11 (.ln l0),x 12 (.i 0)] [] (.blk 2 K.jr))))))) (.reg [u (.bin .add v9 (.i 1)),x 9 l0] [])))
def jt:C:= .loop true [3,4,5,6,10,11,12] K.iV
def aO:Fn:= { bK:=3,vars:=[0,1,2,6,8,9,10,17,18,19,79,80,81],body:=(q [x 3 (.b false)] [] (.seq (q [m v0,u (.nc l0),f 0 l0,g l0,m v1,a 1 l1 l0,w 7 (.ld l0 1 false),w 8 (.ln l0),x 9 (.i 0)] [] (.blk 0 K.jt)) (q [x 3 (.b false)] [] .ret))),res:=[(3,none)]}
def oW:C:= (.its [u (.bin .lss v12 v11)] [] 0 .skip (.exit 0) (.seq (.blk 1 (q [a 1 v10 v12,g l0,x 7 l0] [] (.reg [m v6,m v0,m v7,a 1 l1 l0,g l0,u (.bs [.l 0] 1),u (.app l5 l0 true 1),x 6 l0] []))) (.reg [u (.bin .add v12 (.i 1)),x 12 l0] [])))
def pw:C:= .loop true [3,5,7,8,9] K.oW
def oX:C:= (.seq (.ite [m v8,m v0,u (.ln l0),u (.bin .lss l2 l0)] [] 0 .skip (.exit 2)) (.seq (.blk 3 (q [m v0,m v1,m v2,u (.ca N.bA 1 [] [.l 0]),m v8,u (.bs [.l 0] 1),u (.app l2 l0 true 1),m v8,u (.bin .add l0 (.i 1)),m v4,u (.ca N.dn 1 [] [.l 9,.l 8,.l 3,.l 1,.l 0]),x 9 l0] [] (.ite [m v9,u (.eqk (.sl) true l0 (.c (.nil)))] [] 0 (q [m v9,x 5 l0] [] .ret) .skip))) (.reg [m v8,u (.bin .add l0 (.i 1)),x 8 l0] [])))
def px:C:= .loop true [3,5,6,7,9,10,11,12] K.oX
def dn:Fn:= { bK:=5,vars:=[0,1,2,3,4,10,11,13,14,15,20,21,22],body:=(q [w 5 (.mv (.c (.nil)))] [] (.seq (.ite [m v2,u (.ln l0),m v4,u (.bin .eql l1 l0)] [] 0 (q [w 6 (.nw 1)] [] (.seq (q [x 10 v2,w 11 (.ln l0),x 12 (.i 0)] [] (.blk 0 K.pw)) (.seq (.ite [m v6,m v1,u (.ca N.cI 0 [] [.l 1,.l 0]),m v4,u (.bin .lss l1 l0)] [] 0 (q [m v2,x 5 l0] [] .ret) .skip) (q [w 5 (.mv (.c (.nil)))] [] .ret)))) .skip) (.seq (q [m v3,x 8 l0] [] (.blk 2 K.px)) (q [w 5 (.mv (.c (.nil)))] [] .ret)))),res:=[(5,none)]}
def cb:Fn:= { bK:=2,vars:=[0,1,2,4],body:=(q [w 2 (.bx v0 2),x 3 (.b false)] [] (q [h 2 v2,u (.ca N.cP 0 [] [.l 0]),m l0,e 0 true v1,y 1 true (.ln l0),y 2 true (.bin .leq l0 (.i 16)),u (.pk l3 l0 (.b false)),m l0,e 0 true v1,y 1 true (.mf N.bD [.v 2]),y 2 true (.ca N.ah 0 [] [.l 1,.l 0]),y 3 true (.un .not l0),u (.pk l4 l0 (.b false)),x 3 l0] [] .ret)),res:=[(3,none)]}
def bo:Fn:= { bK:=5,vars:=[0,1,2,3,4,6,7],body:=(q [x 5 (.b false)] [] (q [w 6 (.al [.nil] []),h 2 v1,h 4 v2,g v3,m v0,a 2 l1 l0,f 0 l0,g l0,u (.ca N.cC 0 [] [.l 6,.l 5,.l 0]),u (.st l8 l0 1 [])] [(0,9)] (q [g v4,u (.mf N.aV [.v 6,.v 1,.v 2]),u (.ca N.au 0 [] [.l 1,.l 0]),u (.un .not l0),x 5 l0] [] .ret))),res:=[(5,none)]}
def aM:C:= (.its [u (.bin .lss v20 (.i 2))] [] 0 .skip (.exit 4) (.seq (.blk 5 (q [u (.ix v19 v20 2 1 false),x 12 l0] [] (q [f 0 v11,g l0,f 1 v11,g l0,x 13 l2,x 14 l1] [] (.seq (.ite [m v12] [] 0 (.reg [m v14,m v13,x 13 l1,x 14 l1] []) .skip) (q [h 2 v3,m v10,m v12,u (.ca N.dy 0 [] [.l 2,.l 1,.l 0]),x 15 l0] [] (.ite [m v15,u (.bin .geq l0 (.i 0)),m l0,e 0 true v7,e 1 true v14,y 2 true (.cw l1 0 [] [.l 0]),u (.pk l3 l0 (.b false)),m l0,y 0 true (.fa v4 1),i 1 true l0,e 2 true v14,y 3 true (.ca N.ay 0 [] [.l 1,.l 0]),y 4 true (.un .not l0),u (.pk l5 l0 (.b false)),m l0,e 0 true v8,e 1 true v14,y 2 true (.ia l1 l0 1),i 3 true l0,e 4 true v15,y 5 true (.bin .add l1 l0),e 6 true v8,e 7 true v13,y 8 true (.ia l1 l0 1),i 9 true l0,y 10 true (.bin .lss l4 l0),u (.pk l11 l0 (.b false))] [] 0 (.reg [m v8,m v13,m v8,m v14,a 1 l1 l0,g l0,m v15,u (.bin .add l1 l0),a 1 l7 l6,u (.st l0 l1 1 []),x 9 (.b true)] []) .skip)))))) (.reg [u (.bin .add v20 (.i 1)),x 20 l0] [])))
def ju:C:= .loop true [0,1,2,5,6,12,13,14,15] K.aM
def ec:C:= (.its [u (.bin .lss v18 v17)] [] 0 .skip (.exit 2) (.seq (.blk 3 (q [m v18,a 10 v16 v18,h 10 l0,w 11 (.al [z0,z0,z0,z0,z1,z1,z0,z0,z0,z0] []),x 10 l3,u (.st l1 l2 10 [])] [] (.seq (.ite [f 2 v4,g l0,m v10,u (.ca N.ay 0 [] [.l 1,.l 0])] [] 0 (.exit 3) .skip) (q [w 19 (.bd [z1,z1] [(0,1,.b false),(1,1,.b true)]),x 20 (.i 0)] [] (.blk 4 K.ju))))) (.reg [u (.bin .add v18 (.i 1)),x 18 l0] [])))
def jv:C:= .loop true [0,1,2,5,6,10,11,12,13,14,15,19,20] K.ec
def fE:C:= (.seq (.ite [m v9] [] 0 .skip (.exit 0)) (.blk 1 (q [x 9 (.b false)] [] (q [f 1 v3,w 16 (.ld l0 1 false),w 17 (.ln l0),x 18 (.i 0)] [] (.blk 2 K.jv)))))
def jw:C:= .loop true [0,1,2,5,6,10,11,12,13,14,15,16,17,18,19,20] K.fE
def cC:Fn:= { bK:=3,vars:=[0,1,2,3,4,5,6,7,8,9,10,11,13,14,15,16,28,29,30,39,40],body:=(q [w 3 (.bx v0 2),w 4 (.bx v1 4),w 5 (.bx v2 1),w 6 (.mv (.c (.nil)))] [] (q [u (.mf N.aF [.v 5,.v 3,.v 4]),x 7 l0] [] (q [u (.bs [.i 1152921504606846976] 1),f 0 v3,g l0,u (.ln l0),u (.ca N.aG 1 [] [.l 3,.l 0]),x 8 l0] [] (q [m v8,g v5,a 1 l1 l0,u (.st l0 (.i 0) 1 [])] [] (.seq (q [x 9 (.b true)] [] (.blk 0 K.jw)) (q [m v8,x 6 l0] [] .ret)))))),res:=[(6,none)]}
def aV:Fn:= { bK:=4,vars:=[0,1,2,3,5],body:=(q [x 4 (.b false)] [] (q [g v1,m v0,a 1 l1 l0,g l0,h 2 v2,m v0,u (.ca N.fm 0 [] [.l 1,.l 0]),u (.bin .add l3 l0),f 3 v3,g l0,u (.bin .gtr l2 l0),x 4 l0] [(0,7),(2,7),(3,7),(9,0)] .ret)),res:=[(4,none)]}
end Go.Ev.K
namespace Go.Ev
class dT [Lib]:Prop where
 dP:Lib.fs N.aE=some K.aE
 lK:Lib.fs N.c8=some K.c8
 jx:Lib.fs N.cX=some K.cX
 lL:Lib.fs N.cI=some K.cI
 ke:Lib.fs N.dk=some K.dk
 gO:Lib.fs N.b9=some K.b9
 fK:Lib.fs N.aO=some K.aO
 lM:Lib.fs N.dn=some K.dn
 gP:Lib.fs N.cb=some K.cb
 fF:Lib.fs N.bo=some K.bo
 gQ:Lib.fs N.cC=some K.cC
 eQ:Lib.fs N.aV=some K.aV
namespace K
variable [Lib] [dT]
theorem dP:Lib.fs N.aE=some K.aE:=dT.dP
theorem lK:Lib.fs N.c8=some K.c8:=dT.lK
theorem jx:Lib.fs N.cX=some K.cX:=dT.jx
theorem lL:Lib.fs N.cI=some K.cI:=dT.lL
theorem ke:Lib.fs N.dk=some K.dk:=dT.ke
theorem gO:Lib.fs N.b9=some K.b9:=dT.gO
theorem fK:Lib.fs N.aO=some K.aO:=dT.fK
theorem lM:Lib.fs N.dn=some K.dn:=dT.lM
theorem gP:Lib.fs N.cb=some K.cb:=dT.gP
theorem fF:Lib.fs N.bo=some K.bo:=dT.fF
theorem gQ:Lib.fs N.cC=some K.cC:=dT.gQ
theorem eQ:Lib.fs N.aV=some K.aV:=dT.eQ
end K
end Go.Ev
namespace Go.Ev
open Go
variable [Lib] [aR] [aS] [bY] [bZ]
theorem qN{H:ae}:∀ {a b:List Nat} {x y:ae},pick H a=some x→pick H b=some y→pick H (a++b)=some (x++y)
 | [],b,x,y,hx,hy=>by cases hx;exact hy
 | i::a,b,x,y,hx,hy=>by
   simp only[pick]at hx
   cases ho:H[i]? with
   | none=>rw[ho]at hx;simp at hx
   | some o=>
     rw[ho,aLq]at hx
     cases hp:pick H a with
     | none=>rw[hp]at hx;simp at hx
     | some z=>
       rw[hp]at hx
       simp only[aLw,Option.some.injEq]at hx
       subst hx
       simp only[List.cons_append,pick,ho,aLq,qN hp hy,aLw]
end Go.Ev
namespace Go.Ev
open Go
variable [Lib] [aR] [aS] [bY] [bZ] [dj] [b5] [b6] [cW] [cN] [bE] [bF] [cg] [cj] [gr] [dT]
abbrev bls(l:List Bool):List D:=(l.map Ev.T.bool).map .t
abbrev arA(l:List Int):Obj:= .arr 1 false 0 (ints l)
def rk(G:List (List Int)):Nat→Nat
 | 0=>0
 | n+1=>rk G n+if nth G n=[]then 0 else 1
def idT(G:List (List Int))(f:Nat→Nat):Nat→List Nat
 | 0=>[]
 | m+1=>idT G f m++if nth G m=[]then []else [f m]
def esT(G:List (List Int))(f:Nat→Nat):Nat→List D
 | 0=>[]
 | m+1=>esT G f m++[if nth G m=[]then .nil else .ref (f m) 0 (nth G m).length]
def aT(G G2:List (List Int)):Nat→ae
 | 0=>[]
 | m+1=>aT G G2 m++if nth G m=[]then []else [arA (nth G2 m)]
theorem qO(G:List (List Int))(f:Nat→Nat):∀m,(idT G f m).length=rk G m
 | 0=>rfl
 | m+1=>by
   have ih:=qO G f m
   rw[idT,rk,aLv,ih]
   split<;>rfl
theorem Jh(G:List (List Int)){n m:Nat}(h:n≤m):rk G n≤rk G m:=by
 induction m with
 | zero=>rw[show n=0 by omega];exact aLs _
 | succ m ih=>
   by_cases e:n=m+1
   · rw[e];exact aLs _
   · have:=ih (by omega)
     rw[rk];omega
theorem VA(G:List (List Int)){n m:Nat}(h:n<m)(hn:nth G n≠[]):rk G n<rk G m:=by
 have:=Jh G (n:=n+1) (m:=m) (by omega)
 rw[rk,if_neg hn]at this
 omega
theorem Am(G:List (List Int))(f:Nat→Nat){n:Nat}(hn:nth G n≠[]):∀m,n<m→(idT G f m)[rk G n]?=some (f n)
 | 0,h=>by omega
 | m+1,h=>by
   rw[idT]
   by_cases e:n=m
   · subst e
     rw[if_neg hn,aLh (by rw[qO];exact aLs _),qO,Nat.sub_self];rfl
   · have ih:=Am G f hn m (by omega)
     rw[aLg (by rw[qO];exact VA G (by omega) hn)]
     exact ih
theorem An(G:List (List Int))(f:Nat→Nat):∀m,(esT G f m).flatMap (ids depth)=idT G f m
 | 0=>rfl
 | m+1=>by
   rw[esT,idT,List.flatMap_append,An G f m]
   congr 1
   split<;>rfl
theorem lN:∀ {l sel:List Nat},(sel++l).Nodup→bQ sel l=sel++l
 | [],sel,_=>by simp[bQ]
 | i::r,sel,h=>by
   have hi:sel.contains i=false:=by
    rw[Bool.eq_false_iff]
    intro hc
    have hc:=List.contains_iff_mem.1 hc
    exact(List.nodup_append.1 h).2.2 i hc i List.mem_cons_self rfl
   rw[bQ,hi]
   simp only[aLt,if_false]
   rw[lN (by simpa using h)]
   simp
theorem qe:∀ {l sel:List Nat},(∀x∈l,x∈sel)→bQ sel l=sel
 | [],sel,_=>rfl
 | i::r,sel,h=>by
   have hi:sel.contains i=true:=List.contains_iff_mem.2 (h i List.mem_cons_self)
   rw[bQ,hi]
   simp only[if_true]
   exact qe fun x hx=>h x (List.mem_cons_of_mem _ hx)
structure yh(K:ae)(b q g:Nat)(f:Nat→Nat)(W:List (List Int))(S:List Int)(T:List Bool)(G:List (List Int)):Prop where
 hb:K[b]?=some (.box [.t (.sl (W.map tL)),.t (tL S),.ref g 0 G.length])
 hq:K[q]?=some (.arr 1 false 0 (bls T))
 hg:K[g]?=some (.arr 1 false 0 (esT G f G.length))
 hf:∀n,n<G.length→nth G n≠[]→K[f n]?=some (arA (nth G n))
 nd:([b,q,g]++idT G f G.length).Nodup
abbrev X6(W:List (List Int))(S:List Int)(T:List Bool)(G2:List (List Int))(f:Nat→Nat)(A:ae):ae:= .box [.t (.sl (W.map tL)),.t (tL S),.ref 2 0 G2.length]:: .arr 1 false 0 (bls T):: .arr 1 false 0 (esT G2 f G2.length)::A
abbrev W8(W:List (List Int))(S:List Int)(T:List Bool)(G:List (List Int)):ae:=X6 W S T G (fun n=>3+rk G n) (aT G G G.length)
theorem Ao(T:List Bool):(bls T).flatMap (ids depth)=[]:=p5 8 _
theorem Ji(l:List Int):(arA l).ds.flatMap (ids depth)=[]:=p5 8 _
theorem yh.rch{K:ae}{b q g:Nat}{f:Nat→Nat}{W:List (List Int)}{S:List Int}{T:List Bool}{G:List (List Int)}(h:yh K b q g f W S T G)(i:Int)(n:Nat):
 reach K 3 (bQ [] (nB 8 [.bp b 0,I i,.ref q 0 n]))=[b,q,g]++idT G f G.length:=by
 have nd:=h.nd
 have n3:([b,q,g]:List Nat).Nodup:=(List.nodup_append.1 nd).1
 have n2:([b,q]:List Nat).Nodup:=by
  have:List.Sublist [b,q] [b,q,g]:=by simp
  exact n3.sublist this
 have s0:bQ [] (nB 8 [.bp b 0,I i,.ref q 0 n])=[b,q]:=lN (l:=[b,q]) (sel:=[]) n2
 have i2:fL K [b,q]=[g]:=by
  simp only[fL,List.flatMap_cons,List.flatMap_nil,h.hb,h.hq,Obj.ds,Ao]
  rfl
 have s1:bQ [b,q] [g]=[b,q,g]:=lN (l:=[g]) (sel:=[b,q]) n3
 have i3:fL K [b,q,g]=g::idT G f G.length:=by
  simp only[fL,List.flatMap_cons,List.flatMap_nil,h.hb,h.hq,h.hg,Obj.ds,Ao,An]
  simp[ids,depth]
 have s2:bQ [b,q,g] (g::idT G f G.length)=[b,q,g]++idT G f G.length:=by
  have:([b,q,g]:List Nat).contains g=true:=List.contains_iff_mem.2 (by simp)
  rw[bQ,this]
  simp only[if_true]
  exact lN nd
 have i4:∀x∈fL K ([b,q,g]++idT G f G.length),x∈[b,q,g]++idT G f G.length:=by
  intro x hx
  unfold fL at hx
  rw[List.flatMap_append,List.mem_append]at hx
  rcases hx with hx | hx
  · have hx:x∈fL K [b,q,g]:=hx
    rw[i3]at hx
    rcases List.mem_cons.1 hx with e | e
    · subst e;simp
    · exact List.mem_append_right _ e
  · obtain⟨j,hj,hx⟩:=List.mem_flatMap.1 hx
    have:∃n,n<G.length∧nth G n≠[]∧j=f n:=by
     have key:∀m,j∈idT G f m→∃n,n<m∧nth G n≠[]∧j=f n:=by
      intro m
      induction m with
      | zero=>intro h;simp[idT]at h
      | succ m ih=>
        intro h
        rw[idT,List.mem_append]at h
        rcases h with h | h
        · obtain⟨n,a,b,c⟩:=ih h;exact⟨n,by omega,b,c⟩
        · split at h
          · simp at h
          · rename_i hm;exact⟨m,by omega,hm,by simpa using h⟩
     exact key _ hj
    obtain⟨n,hn,hne,rfl⟩:=this
    rw[h.hf n hn hne]at hx
    simp only[Ji]at hx
    simp at hx
 simp only[reach,s0,i2,s1,i3,s2,qe i4]
theorem yh.Jj{K:ae}{b q g:Nat}{f:Nat→Nat}{W:List (List Int)}{S:List Int}{T:List Bool}{G:List (List Int)}(h:yh K b q g f W S T G){n:Nat}(hn:n<G.length)(hne:nth G n≠[]):
 ([b,q,g]++idT G f G.length)[3+rk G n]?=some (f n):=by
 rw[aLh (by simp),show 3+rk G n-[b,q,g].length=rk G n by simp]
 exact Am G f hne _ hn
theorem yh.ix{K:ae}{b q g:Nat}{f:Nat→Nat}{W:List (List Int)}{S:List Int}{T:List Bool}{G:List (List Int)}(h:yh K b q g f W S T G){n:Nat}(hn:n<G.length)(hne:nth G n≠[]):
 idxOf ([b,q,g]++idT G f G.length) (f n)=some (3+rk G n):=et _ _ _ h.nd (h.Jj hn hne)
theorem yh.ix3{K:ae}{b q g:Nat}{f:Nat→Nat}{W:List (List Int)}{S:List Int}{T:List Bool}{G:List (List Int)}(h:yh K b q g f W S T G):
 idxOf ([b,q,g]++idT G f G.length) b=some 0∧idxOf ([b,q,g]++idT G f G.length) q=some 1∧idxOf ([b,q,g]++idT G f G.length) g=some 2:=
 ⟨et _ _ _ h.nd rfl,et _ _ _ h.nd rfl,et _ _ _ h.nd rfl⟩
theorem Aq{u:Nat→Option Nat}{G:List (List Int)}{f f2:Nat→Nat}:∀m,(∀n,n<m→nth G n≠[]→u (f n)=some (f2 n))→aY (ren u depth) (esT G f m)=some (esT G f2 m)
 | 0,_=>rfl
 | m+1,h=>by
   have ih:=Aq m fun n hn=>h n (by omega)
   rw[esT,esT]
   refine jN ih ?_
   by_cases e:nth G m=[]
   · rw[if_pos e,if_pos e];rfl
   · rw[if_neg e,if_neg e]
     have:=h m (by omega) e
     simp only[aY,ren,depth,this,aLw,aLq]
theorem EL{u:Nat→Option Nat}{G G2:List (List Int)}:∀m,aY (cR u) (aT G G2 m)=some (aT G G2 m)
 | 0=>rfl
 | m+1=>by
   rw[aT]
   refine jN (EL m) ?_
   split
   · rfl
   · simp only[aY,cR,ints,tP,aLw,aLq]
theorem yh.pk{K:ae}{b q g:Nat}{f:Nat→Nat}{W:List (List Int)}{S:List Int}{T:List Bool}{G:List (List Int)}(h:yh K b q g f W S T G):
 pick K ([b,q,g]++idT G f G.length)=some ([.box [.t (.sl (W.map tL)),.t (tL S),.ref g 0 G.length],.arr 1 false 0 (bls T),.arr 1 false 0 (esT G f G.length)]++aT G G G.length):=by
 have p3:pick K [b,q,g]=some [.box [.t (.sl (W.map tL)),.t (tL S),.ref g 0 G.length],.arr 1 false 0 (bls T),.arr 1 false 0 (esT G f G.length)]:=by
  simp only[pick,h.hb,h.hq,h.hg,aLq,aLw]
 have key:∀m,m≤G.length→pick K (idT G f m)=some (aT G G m):=by
  intro m
  induction m with
  | zero=>intro _;rfl
  | succ m ih=>
    intro hm
    rw[idT,aT]
    refine qN (ih (by omega)) ?_
    by_cases e:nth G m=[]
    · rw[if_pos e,if_pos e];rfl
    · rw[if_neg e,if_neg e]
      simp only[pick,h.hf m (by omega) e,aLq,aLw]
 exact qN p3 (key _ (aLs _))
theorem yh.call{K:ae}{b q g:Nat}{f:Nat→Nat}{W:List (List Int)}{S:List Int}{T:List Bool}{G:List (List Int)}(h:yh K b q g f W S T G)(i:Int)(n:Nat):
 vn K bM N.aO 0 [2] [.bp b 0,I i,.ref q 0 n]=(bM 0 N.aO [.bp 0 0,I i,.ref 1 0 n] (W8 W S T G)).bind (jU K K ([b,q,g]++idT G f G.length)):=by
 obtain⟨x0,x1,x2⟩:=h.ix3
 have ar:gW K [2] 0 [.bp b 0,I i,.ref q 0 n]=some [.bp b 0,I i,.ref q 0 n]:=by simp only[go_sem]
 have fz:bz K [2] 0 [.bp b 0,I i,.ref q 0 n]=[]:=by simp only[go_sem]
 have rn:aY (ren (idxOf ([b,q,g]++idT G f G.length)) 8) [.bp b 0,I i,.ref q 0 n]=some [.bp 0 0,I i,.ref 1 0 n]:=by
  simp only[aY,ren,x0,x1,aLw,aLq]
 have ro:aY (cR (idxOf ([b,q,g]++idT G f G.length))) ([.box [.t (.sl (W.map tL)),.t (tL S),.ref g 0 G.length],.arr 1 false 0 (bls T),.arr 1 false 0 (esT G f G.length)]++aT G G G.length)=some (W8 W S T G):=by
  refine jN (x:=[.box [.t (.sl (W.map tL)),.t (tL S),.ref 2 0 G.length],.arr 1 false 0 (bls T),.arr 1 false 0 (esT G (fun n=>3+rk G n) G.length)]) ?_ (EL _)
  have e1:aY (ren (idxOf ([b,q,g]++idT G f G.length)) 8) (esT G f G.length)=some (esT G (fun n=>3+rk G n) G.length):=Aq (u:=idxOf ([b,q,g]++idT G f G.length)) (f2:=fun n=>3+rk G n) G.length (fun n hn hne=>h.ix hn hne)
  have e2:aY (ren (idxOf ([b,q,g]++idT G f G.length)) 8) (bls T)=some (bls T):=tP _ _
  simp only[aY,cR,ren,depth,x2,aLw,aLq]
  rw[e1,e2]
  rfl
 rw[vr,vt,ar,aLq,vu,h.rch,vv,rn,aLq,fz,vw]
 simp only[pins]
 rw[h.pk,aLq,vz,ro,aLq,vA]
abbrev Tb(T:List Bool):Nat→Bool:=fun n=>nth T n
def left(T:List Bool):Nat:=(T.filter fun x=> !x).length
structure W9(G G2:List (List Int))(x:ae):Prop where
 keep:∀n,nth G n≠[]→nth G2 n≠[]
 new:(x=[]∧∀n,nth G n=[]→nth G2 n=[])∨∃n0,n0<G.length∧nth G n0=[]∧nth G2 n0≠[]∧x=[arA (nth G2 n0)]∧∀n,n≠n0→nth G n=[]→nth G2 n=[]
structure Acc(W:List (List Int))(S:List Int)(G:List (List Int))(T T2:Nat→Bool):Prop where
 sub:∀n,T n=true→T2 n=true
 clo:∀n,n<S.length→T2 n=true→T n=false→nth S n≤(nth G n).length∧∀j∈nth G n,Ce W S j fun x=>T2 x=true
theorem Acc.refl(W:List (List Int))(S:List Int)(G:List (List Int))(T:Nat→Bool):Acc W S G T T:=⟨fun _ h=>h,fun n _ h k=>by rw[h]at k;cases k⟩
theorem Ce.mono{W:List (List Int)}{S:List Int}{i:Int}{U V:Nat→Prop}(h:Ce W S i U)(s:∀n,U n→V n):Ce W S i V:=fun x hx hw=>s x (h x hx hw)
theorem Acc.trans{W:List (List Int)}{S:List Int}{G:List (List Int)}{T T2 T3:Nat→Bool}(h:Acc W S G T T2)(g:Acc W S G T2 T3):Acc W S G T T3:=by
 refine⟨fun n hn=>g.sub n (h.sub n hn),fun n hn h3 h1=>?_⟩
 cases h2:T2 n with
 | true=>
   obtain⟨a,b⟩:=h.clo n hn h2 h1
   exact⟨a,fun j hj=>(b j hj).mono g.sub⟩
 | false=>exact g.clo n hn h3 h2
theorem tX.acc{W:List (List Int)}{S:List Int}{G:List (List Int)}{i:Int}{T T2:Nat→Bool}(h:tX W S G i T T2):Acc W S G T T2:=⟨h.sub,h.clo⟩
theorem Acc.num{W:List (List Int)}{S:List Int}{G:List (List Int)}{T T2:List Bool}{n:Nat}(hn:n<T.length)(h:Acc W S G (Tb (T.set n true)) (Tb T2))(hf:nth S n≤(nth G n).length)(hm:∀j∈nth G n,Ce W S j fun x=>Tb T2 x=true):Acc W S G (Tb T) (Tb T2):=by
 have e1:nth (T.set n true) n=true:=by
  unfold nth
  rw[aLl,aLj hn];rfl
 have e2:∀m,m≠n→nth (T.set n true) m=nth T m:=fun m hm=>by
  unfold nth
  rw[aLl,aLl,aLi (fun k=>hm k.symm)]
 refine⟨fun m hm=>h.sub m ?_,fun m hm h2 h1=>?_⟩
 · by_cases e:m=n
   · subst e;exact e1
   · simp only[Tb]at hm ⊢;rw[e2 m e];exact hm
 · by_cases e:m=n
   · subst e;exact⟨hf,hm⟩
   · refine h.clo m hm h2 ?_
     simp only[Tb]at h1 ⊢;rw[e2 m e];exact h1
theorem qH.mono{W:List (List Int)}{S:List Int}{G G2:List (List Int)}{i:Int}{T T2:Nat→Bool}(h:qH W S G i T2 G2)(s:∀n,T n=true→T2 n=true):qH W S G i T G2:=⟨h.gi,h.pm,fun n hn=>h.old n (s n hn),h.clo⟩
structure Ye(K:ae)(b g:Nat)(f:Nat→Nat)(W:List (List Int))(S:List Int)(G:List (List Int)):Prop where
 hb:K[b]?=some (.box [.t (.sl (W.map tL)),.t (tL S),.ref g 0 G.length])
 hg:K[g]?=some (.arr 1 false 0 (esT G f G.length))
 hf:∀n,n<G.length→nth G n≠[]→K[f n]?=some (arA (nth G n))
 bg:b≠g
 inj:∀n m,n<G.length→m<G.length→nth G n≠[]→nth G m≠[]→f n=f m→n=m
 fb:∀n,n<G.length→nth G n≠[]→f n≠b∧f n≠g
theorem W9.refl(G:List (List Int)):W9 G G []:=⟨fun _ h=>h,.inl ⟨rfl,fun _ h=>h⟩⟩
end Go.Ev
namespace Go.Ev
open Go
variable [Lib] [aR] [aS] [bY] [bZ]
theorem Ar{H H':ae}:∀(k:Nat) (d:D),(∀i∈cB H k d,∃sz pin pin' ep es,H[i]?=some (.arr sz pin ep es)∧H'[i]?=some (.arr sz pin' ep es))→frz H' k d=frz H k d∧cB H' k d=cB H k d:=by
 intro k
 induction k with
 | zero=>intro d _;cases d<;>exact⟨rfl,rfl⟩
 | succ k ih=>
   intro d h
   have list:∀es:List D,(∀i∈es.flatMap (cB H k),∃sz pin pin' ep es,H[i]?=some (.arr sz pin ep es)∧H'[i]?=some (.arr sz pin' ep es))→aY (frz H' k) es=aY (frz H k) es∧es.flatMap (cB H' k)=es.flatMap (cB H k):=by
    intro es
    induction es with
    | nil=>intro _;exact⟨rfl,rfl⟩
    | cons e es ihl=>
      intro he
      obtain⟨a1,a2⟩:=ih e fun i hi=>he i (by simp[hi])
      obtain⟨b1,b2⟩:=ihl fun i hi=>he i (by rw[List.flatMap_cons];exact List.mem_append_right _ hi)
      exact⟨by simp only[aY,a1,b1],by simp only[List.flatMap_cons,a2,b2]⟩
   cases d with
   | agg cs=>
     simp only[cB]at h
     obtain⟨a1,a2⟩:=list cs h
     exact⟨by simp only[frz,a1],by simp only[cB,a2]⟩
   | ref id ep n=>
     obtain⟨sz,pin,pin',ep',es,e1,e2⟩:=h id (by simp[cB])
     have:∀i∈es.flatMap (cB H k),∃sz pin pin' ep es,H[i]?=some (.arr sz pin ep es)∧H'[i]?=some (.arr sz pin' ep es):=fun i hi=>h i (by simp only[cB,e1];exact List.mem_cons_of_mem _ hi)
     obtain⟨a1,a2⟩:=list es this
     refine⟨?_,by simp only[cB,e1,e2,a2]⟩
     simp only[frz,cQ,e1,e2]
     by_cases c:ep=ep'∧n=es.length
     · simp only[if_pos c,aLq,a1]
     · simp only[if_neg c,Option.bind_none]
   | sub id ep n lo hi=>
     obtain⟨sz,pin,pin',ep',es,e1,e2⟩:=h id (by simp[cB])
     have:∀i∈es.flatMap (cB H k),∃sz pin pin' ep es,H[i]?=some (.arr sz pin ep es)∧H'[i]?=some (.arr sz pin' ep es):=fun i hi=>h i (by simp only[cB,e1];exact List.mem_cons_of_mem _ hi)
     obtain⟨a1,a2⟩:=list es this
     have:∀i∈((es.drop lo).take (hi-lo)).flatMap (cB H k),∃sz pin pin' ep es,H[i]?=some (.arr sz pin ep es)∧H'[i]?=some (.arr sz pin' ep es):=fun i hi=>by
      obtain⟨e,he,hi⟩:=List.mem_flatMap.1 hi
      exact this i (List.mem_flatMap.2 ⟨e,List.mem_of_mem_drop (List.mem_of_mem_take he),hi⟩)
     obtain⟨b1,b2⟩:=list _ this
     refine⟨?_,by simp only[cB,e1,e2,a2]⟩
     simp only[frz,cQ,e1,e2]
     by_cases c:ep=ep'∧n=es.length
     · simp only[if_pos c,aLq,b1]
     · simp only[if_neg c,Option.bind_none]
   | _=>exact⟨rfl,rfl⟩
section
variable {bm : aX} (hm : bm.ok) {t : Int} (i : Nat) {H : ae} {io iB iO n a fbi tl : Nat} {es : List D} {whr : List Wh} (e1 : H[iO]? = some (.box [.ref io 0 n])) (e2 : H[io]? = some (.arr 2 false 0 es)) (e3 : es.length = n)
 (e4:es[i]?=some (.agg [.ref a 0 tl,.ref fbi 0 whr.length])) (e5:H[fbi]?=some (.arr 2 false 0 (whs whr))) (e6:H[iB]?=some (.box (ai bm))) (hi:i<n) (hn:n≤1000000) (hl:whr.length≤1000000)
include hm e1 e2 e3 e4 e5 e6 hi hn hl
end
theorem Rp.app{H:ae}{id:Nat}{es:List D}{fa fb:Nat→Nat}{out:List World}(hr:Rp H id es fa fb out)(t:ae):Rp (H++t) id es fa fb out:=
 ⟨by rw[m9 (qM hr.arr)];exact hr.arr,hr.len,hr.el,fun j hj=>by rw[m9 (qM (hr.ha j hj))];exact hr.ha j hj,fun j hj=>by rw[m9 (qM (hr.hb j hj))];exact hr.hb j hj,hr.na,hr.nb,hr.nab,hr.nbb⟩
structure SlH(H:ae)(b:List World)(bm:aX)(iB iO io:Nat)(es:List D)(fa fb:Nat→Nat)(A:List Nat)(O:List World):Prop where
 h1:H[1]?=some (.box [.ref 3 0 b.length])
 h2:H[2]?=some (.box [.nil])
 hB:H[iB]?=some (.box (ai bm))
 hO:H[iO]?=some (.box [.ref io 0 O.length])
 rp:Rp H io es fa fb O
 ar:∀i∈A,∃sz pin ep es,H[i]?=some (.arr sz pin ep es)
 nA:∀i∈A,∀j,j<O.length→i≠fb j
 eA:cB H 7 (.ref 3 0 b.length)=A
 fr:frz H 7 (.ref 3 0 b.length)=some (.sl (b.map World.e))
theorem SlH.step{H:ae}{b:List World}{bm:aX}{iB iO io:Nat}{es:List D}{fa fb:Nat→Nat}{A:List Nat}{O:List World}(h:SlH H b bm iB iO io es fa fb A O){i:Nat}(hi:i<O.length)(x:World)(ht:(nth O i).tags=x.tags)
 (hw:x.whr.length=(nth O i).whr.length) (o:Obj):SlH (H.set (fb i) (.arr 2 false 0 (whs x.whr))++[o]) b bm iB iO io es fa fb A (O.set i x):=by
 have hb:=h.rp.hb i hi
 have nb:∀ {k:Nat} {cs:List D},H[k]?=some (.box cs)→(H.set (fb i) (.arr 2 false 0 (whs x.whr))++[o])[k]?=some (.box cs):=fun{k cs} hk=>by
  have ne:fb i≠k:=fun e=>by rw[e,hk]at hb;cases hb
  rw[m9 (by rw[List.length_set];exact qM hk),jl ne];exact hk
 have na:∀k∈A,(H.set (fb i) (.arr 2 false 0 (whs x.whr))++[o])[k]?=H[k]?:=fun k hk=>by
  obtain⟨sz,pin,ep,es',e⟩:=h.ar k hk
  rw[m9 (by rw[List.length_set];exact qM e),jl (fun e=>h.nA k hk i hi e.symm)]
 have fc:=Ar (H:=H) (H':=H.set (fb i) (.arr 2 false 0 (whs x.whr))++[o]) 7 (.ref 3 0 b.length) (fun k hk=>by
  rw[h.eA]at hk
  obtain⟨sz,pin,ep,es',e⟩:=h.ar k hk
  exact⟨sz,pin,pin,ep,es',e,by rw[na k hk];exact e⟩)
 refine⟨nb h.h1,nb h.h2,nb h.hB,by rw[List.length_set];exact nb h.hO,(h.rp.merge hi x ht hw).app _,fun k hk=>?_,by rw[List.length_set];exact h.nA,by rw[fc.2];exact h.eA,by rw[fc.1];exact h.fr⟩
 obtain⟨sz,pin,ep,es',e⟩:=h.ar k hk
 exact⟨sz,pin,ep,es',by rw[na k hk];exact e⟩
end Go.Ev
namespace Go.Ev
open Go
variable [Lib] [aR] [aS] [bY] [bZ]
section
variable (x : w8) (s : O6) (k : Keys) (b : Bel) (hx : x.area.length ≤ 1000000) (hk : k.roads.length ≤ 1000000) (hk2 : k.keys.length ≤ 1000000) (hb : b.sz)
include hx hk hk2 hb
end
end Go.Ev
namespace Go.Ev
open Go
variable [Lib] [aR] [aS] [bY] [bZ]
section
variable (d d1 d2 d3 d4 d5 : az) (p a3 : Bool) (st fi se ti now ar ag f1 f2 a1 a2 a4 : Int) (n : Nat) (b : Int) (h0 : 0 ≤ now) (h1 : now ≤ b) (hb : b ≤ 100000) (e5 : d5.cV) (l2 : 0 ≤ a2) (m1 : 0 ≤ a1 ∧ a1 ≤ 301) (l4 : 0 ≤ a4) (h4 : a4 < 3) (hn : n ≤ 30)
 (o1:bM 0 N.bc [.bp 0 0,.t (.sl [.int .i64 0,.int .i64 10,.int .i64 200,.int .i64 301])] [d.obj]=some (I a1,[d1.obj])) (o2:bM 0 N.aq [.bp 0 0,I 6] [d1.obj]=some (I a2,[d2.obj]))
 (o3:bM 0 N.aN [.bp 0 0,I 6] [d2.obj]=some (B a3,[d3.obj])) (o4:bM 0 N.aq [.bp 0 0,I 3] [d3.obj]=some (I a4,[d4.obj]))
include h0 h1 hb e5 l2 m1 l4 h4 hn o1 o2 o3 o4
end
end Go.Ev
namespace Go.Ev
open Go
variable [Lib] [aR] [aS] [bY]
end Go.Ev
namespace Go.Ev
open Go
variable [Lib] [aR] [aS] [bY] [bZ]
structure Scn(x:w8)(k:Keys)(c:Bel)(d:az):Prop where
 hx:x.area.length≤64
 h1:0≤x.hold
 h2:x.hold≤1000
 m1:0≤x.mis
 m2:x.mis≤10000
 hk:k.roads.length≤64
 hk2:k.keys.length≤64
 hc:c.sz
 cV:d.cV
end Go.Ev
namespace Go.Ev
open Go
variable [Lib] [aR] [aS] [bY] [bZ] [dj] [b5] [b6] [cW] [cN] [bE] [bF] [cg] [cj] [gr] [dT]
structure WS(W:List (List Int))(S:List Int):Prop where
 wl:W.length≤6
 sl:S.length≤5
 wb:∀l∈W,l.length≤4∧∀x∈l, -1≤x∧x≤7
 sb:∀x∈S, -1≤x∧x≤100
end Go.Ev
namespace Go.Ev
open Go
variable [Lib] [aR] [aS]
structure OfI(m:aX)(p:Nat)(l:List Int):Prop where
 ln:l.length=m.aa.length
 bd:bnd l
 z:nth l p=0
theorem OfI.set{m:aX}{p:Nat}{l:List Int}(h:OfI m p l){q:Nat}{x:Int}(hq:q<l.length)(h0:0<x)(hx:x<nth l q):OfI m p (l.set q x):=by
 have b1:=h.bd _ (bn hq)
 refine⟨by rw[List.length_set];exact h.ln,Hn h.bd (by omega) (by omega),?_⟩
 rw[eP _ _ hq]
 split
 · rename_i e;subst e;have:=h.z;omega
 · exact h.z
@[go_sem] theorem PW : ez [] [] [] = some true := (rfl)
@[go_sem] theorem PX (ks : List Bool) (k : IntKind) (a b : Int) (xs ys : List T) : ez (true :: ks) (.int k a :: xs) (.int k b :: ys) = Cc (decide (a = b)) (ez ks xs ys) := by
 simp only[ez,if_true,MZ]
 cases ez ks xs ys<;>rfl
@[go_sem] theorem Mh (ks : List Bool) (a b : Bool) (xs ys : List T) : ez (false :: ks) (.bool a :: xs) (.bool b :: ys) = Cc (decide (a = b)) (ez ks xs ys) := by
 simp only[ez,show(a==b)=decide (a=b)from rfl]
 cases ez ks xs ys<;>rfl
@[go_sem] theorem Sx (H : ae) (ks : List Bool) (neg : Bool) (xs ys : List T) : jT H (.sc ks) neg (some (.t (.agg xs))) (some (.t (.agg ys))) = Cd H neg (ez ks xs ys) := by
 simp only[jT,aLq,C9,eqD]
 cases ez ks xs ys with
 | none=>rfl
 | some r=>cases neg<;>rfl
end Go.Ev
namespace Go.Ev.K
open Go.Ev
end Go.Ev.K
namespace Go.Ev
class eB [Lib]:Prop where
namespace K
variable [Lib] [eB]
end K
end Go.Ev
namespace Go.Ev.K
open Go.Ev
end Go.Ev.K
namespace Go.Ev
class eC [Lib]:Prop where
namespace K
variable [Lib] [eC]
end K
end Go.Ev
namespace Go.Ev
open Go
variable [Lib] [aR] [aS] [bY] [bZ] [b5] [b6] [cW] [cN] [eB] [eC]
end Go.Ev
namespace Go.Ev
open Go
variable [Lib] [aR] [aS] [bY] [bZ] [dj] [b5] [b6] [cW] [cN] [bE] [bF] [cg] [cj]
end Go.Ev
namespace Go.Ev
open Go
variable [Lib] [aR] [aS] [bY] [bZ] [dj] [b5] [b6] [cW] [cN] [bE] [bF] [cg] [cj] [eB] [eC]
end Go.Ev
namespace Go.Ev
open Go
variable [Lib]
structure Edge where
 r:Nat
 a:Nat
 b:Nat
 t:Int
structure Lab where
 t:Int
 r:Int
 deriving DecidableEq
instance : Dat Edge := ⟨⟨0, 0, 0, 0⟩⟩
instance : Dat Lab := ⟨⟨0, 0⟩⟩
def lO(x y:Lab):Bool:=decide (x.t<y.t)||(decide (x.t=y.t)&&decide (x.r<y.r))
theorem oY{x y:Lab}:lO x y=true↔x.t<y.t∨x.t=y.t∧x.r<y.r:=by
 simp[lO]
theorem As{x y:Lab}:lO x y=false↔¬(x.t<y.t∨x.t=y.t∧x.r<y.r):=by
 rw[← oY,Bool.not_eq_true]
def CV(L:List Lab)(e:Edge):Lab:=⟨(nth L e.b).t+e.t,(nth L e.b).r+1⟩
def Sy(F:Int)(u:Edge→Bool)(L:List Lab)(e:Edge):Bool:=u e&&decide ((nth L e.b).t<F)&&lO (CV L e) (nth L e.a)
def X7(F:Int)(u:Edge→Bool)(L:List Lab)(e:Edge):List Lab:=if Sy F u L e then L.set e.a (CV L e)else L
def Sz(F:Int)(u:Edge→Bool)(E:List Edge)(L:List Lab)(c:Bool):Nat→List Lab×Bool
 | 0=>(L,c)
 | j+1=>(X7 F u (Sz F u E L c j).1 (nth E j),(Sz F u E L c j).2||Sy F u (Sz F u E L c j).1 (nth E j))
structure X8(F:Int)(n:Nat)(L:List Lab):Prop where
 l:L.length=n
 t0:∀p,p<n→0≤(nth L p).t
 t1:∀p,p<n→(nth L p).t≤F
 r0:∀p,p<n→0≤(nth L p).r
 r1:∀p,p<n→(nth L p).r≤(nth L p).t
def Edge.ok(n:Nat)(e:Edge):Prop:=e.a<n∧e.b<n∧1≤e.t∧e.t≤1000000
def wL(F:Int)(x:Lab):Nat:=(x.t*(F+1)+x.r).toNat
def X9(F:Int)(L:List Lab):Nat:=(L.map (wL F)).sum
structure Ya(F:Int)(n:Nat)(E:List Edge)(u:Edge→Bool)(Z:Nat→Bool)(L:List Lab):Prop extends X8 F n L where
 z:∀p,p<n→Z p=true→nth L p=⟨0,0⟩
 w:∀p,p<n→(nth L p).t<F→Z p=true∨∃e∈E,u e=true∧e.a=p∧(nth L e.b).t<F∧lO (nth L p) (CV L e)=false
structure SA(F:Int)(n:Nat)(E:List Edge)(u:Edge→Bool)(Z:Nat→Bool)(L:List Lab):Prop extends Ya F n E u Z L where
 fx:∀e∈E,Sy F u L e=false
def PY(F:Int)(u:Edge→Bool)(E:List Edge)(L:List Lab):List Lab:=vK (fun L=>Sz F u E L false E.length) (X9 F L+1) L
theorem SA.eqn{F:Int}{n:Nat}{E:List Edge}{u:Edge→Bool}{Z:Nat→Bool}{L:List Lab}(h:SA F n E u Z L)(hE:∀e∈E,e.ok n){p:Nat}(hp:p<n)(hf:(nth L p).t<F)(hz:Z p=false):∃e∈E,u e=true∧e.a=p∧(nth L e.b).t<F∧nth L p=CV L e:=by
 rcases h.w p hp hf with h1 | ⟨e,he,e1,e2,e3,e4⟩
 · rw[hz]at h1;cases h1
 · refine⟨e,he,e1,e2,e3,?_⟩
   have fx:=h.fx e he
   unfold Sy at fx
   rw[e1,decide_eq_true e3,e2]at fx
   simp only[Bool.true_and]at fx
   rw[As]at fx e4
   have:∀x y:Lab,x.t=y.t→x.r=y.r→x=y:=fun x y a b=>by
    cases x;cases y;simp only at a b;rw[a,b]
   exact this _ _ (by omega) (by omega)
theorem Au{p q:Nat→Bool}(h:∀x,p x=true→q x=true){l:List Nat}{x:Nat}(hx:x∈l)(h1:q x=true)(h2:p x=false):l.countP p<l.countP q:=by
 have le:∀l:List Nat,l.countP p≤l.countP q:=fun l=>List.countP_mono_left (fun x _ hp=>h x hp)
 induction l with
 | nil=>cases hx
 | cons a l ih=>
   rw[List.countP_cons,List.countP_cons]
   have:=le l
   rcases List.mem_cons.1 hx with rfl | hx
   · rw[h1,h2];simp;omega
   · have:=ih hx
     cases hp:p a with
     | true=>rw[h a hp];simp;omega
     | false=>simp;omega
theorem SA.time{F:Int}{n:Nat}{E:List Edge}{u:Edge→Bool}{Z:Nat→Bool}{L:List Lab}(h:SA F n E u Z L)(hE:∀e∈E,e.ok n){p:Nat}(hp:p<n)(hf:(nth L p).t<F):(nth L p).t≤(n:Int)*1000000:=by
 have key:∀(k:Nat) (p:Nat),p<n→(nth L p).t.toNat=k→(nth L p).t<F→(nth L p).t≤((List.range n).countP (fun x=>lO (nth L x) (nth L p)):Int)*1000000:=by
  intro k
  induction k using Nat.strongRecOn with
  | ind k ih=>
    intro p hp hk hf
    by_cases hz:Z p=true
    · rw[h.z p hp hz]
      have:0≤((List.range n).countP (fun x=>lO (nth L x) ⟨0,0⟩):Int)*1000000:=Int.mul_nonneg (Int.natCast_nonneg _) (by omega)
      exact this
    · obtain⟨e,he,e1,e2,e3,e4⟩:=h.eqn hE hp hf (by simpa using hz)
      obtain⟨o1,o2,o3,o4⟩:=hE e he
      have ct:(nth L p).t=(nth L e.b).t+e.t:=by rw[e4];rfl
      have cr:(nth L p).r=(nth L e.b).r+1:=by rw[e4];rfl
      have b0:=h.t0 _ o2
      have:=ih (nth L e.b).t.toNat (by omega) e.b o2 rfl e3
      have lt:(List.range n).countP (fun x=>lO (nth L x) (nth L e.b))<(List.range n).countP (fun x=>lO (nth L x) (nth L p)):=by
       refine Au (fun x hx=>?_) (aLu.2 o2) ?_ ?_
       · rw[oY]at hx ⊢;omega
       · rw[oY];omega
       · rw[As];omega
      generalize (List.range n).countP (fun x=>lO (nth L x) (nth L e.b))=c1 at*
      generalize (List.range n).countP (fun x=>lO (nth L x) (nth L p))=c2 at*
      omega
 have a:=key _ p hp rfl hf
 have b:(List.range n).countP (fun x=>lO (nth L x) (nth L p))≤n:=by
  have:=List.countP_le_length (p:=fun x=>lO (nth L x) (nth L p)) (l:=List.range n)
  simpa using this
 generalize (List.range n).countP (fun x=>lO (nth L x) (nth L p))=c at*
 omega
def VB(u:Edge→Bool)(L:List Lab)(at':Nat)(e:Edge):Bool:=decide (e.a=at')&&u e&&decide (nth L e.b=⟨(nth L at').t-e.t,(nth L at').r-1⟩)
def VC(u:Edge→Bool)(E:List Edge)(L:List Lab)(at':Nat):Option Edge:=E.find? (VB u L at')
def PZ(Z:Nat→Bool)(u:Edge→Bool)(E:List Edge)(L:List Lab):Nat→Nat→List Edge
 | 0,_=>[]
 | k+1,p=>if Z p then []else match VC u E L p with
   | some e=>e::PZ Z u E L k e.b
   | none=>[]
def EM:Nat→List Edge→Prop
 | _,[]=>True
 | p,e::l=>e.a=p∧EM e.b l
def Xa:Nat→List Edge→Nat
 | p,[]=>p
 | _,e::l=>Xa e.b l
structure Xb(F:Int)(n:Nat)(E:List Edge)(u:Edge→Bool)(Z:Nat→Bool)(L:List Lab)(p:Nat)(l:List Edge):Prop where
 mem:∀e∈l,e∈E∧u e=true∧e.b<n
 chain:EM p l
 fin:Z (Xa p l)=true
 sum:(l.map Edge.t).sum=(nth L p).t
 low:∀e∈l,(nth L e.b).r<(nth L p).r
 dis:(l.map Edge.b).Nodup
end Go.Ev
namespace Go.Ev.K
open Go.Ev
def bC:Fn:= { bK:=2,vars:=[0,1,3,4,5],body:=(q [w 2 (.bx v1 2),w 3 (.al [.nil,.nil,.nil,z0] [])] [] (q [m v0,u (.bs [.i 600,.i 100,.i 60,.i 1000,.i 0] 1),u (.ca N.bc 0 [] [.l 1,.l 0]),u (.bd [.nil,.nil,.nil,z0] [(3,1,.l 0)]),w 4 (.al [.nil,.nil,.nil,z0] []),u (.st l0 l1 4 [])] [] (.seq (.ite [m v0,u (.ca N.aN 0 [] [.l 0,.i 3])] [] 0 (.reg [m v0,f 0 v2,g l0,u (.ln l0),u (.ca N.aq 0 [] [.l 3,.l 0]),u (.bs [.l 0] 1),f 0 v4,u (.st l0 l1 1 [])] []) .skip) (.seq (.ite [m v0,u (.ca N.aN 0 [] [.l 0,.i 4])] [] 0 (.reg [m v0,f 0 v2,g l0,u (.ln l0),u (.ca N.aq 0 [] [.l 3,.l 0]),u (.bs [.l 0] 1),f 1 v4,u (.st l0 l1 1 [])] []) .skip) (.seq (.ite [m v0,u (.ca N.aN 0 [] [.l 0,.i 4]),m l0,y 0 true (.fa v2 1),i 1 true l0,y 2 true (.ln l0),y 3 true (.bin .gtr l0 (.i 0)),u (.pk l4 l0 (.b false))] [] 0 (.reg [m v0,f 1 v2,g l0,u (.ln l0),u (.ca N.aq 0 [] [.l 3,.l 0]),u (.bs [.l 0] 1),f 2 v4,u (.st l0 l1 1 [])] []) .skip) (q [h 4 v4,u (.st v3 l0 4 [])] [] .ret)))))),res:=[(3,some (4,true))]}
def du:C:= (.seq (.ite [m v5,f 1 v2,g l0,u (.ln l0),u (.bin .lss l3 l0)] [] 0 .skip (.exit 0)) (.seq (.blk 1 (q [f 1 v2,g l0,m v5,a 10 l1 l0,h 10 l0,w 6 (.al [z0,z0,z0,z0,z1,z1,z0,z0,z0,z0] []),u (.st l0 l1 10 [])] [] (.seq (.ite [f 0 v6,g l0,m v1,u (.bin .eql l1 l0),m l0,y 0 true (.ld v2 2 true),e 1 true v5,y 2 true (.ca N.bX 0 [] [.l 1,.l 0,.b false]),y 3 true (.bin .geq l0 (.i 0)),u (.pk l4 l0 (.b false))] [] 0 (.reg [m v4,h 2 v2,m v5,u (.ca N.bX 0 [] [.l 1,.l 0,.b true]),u (.mx [.l 3,.l 0]),x 4 l0] []) .skip) (.ite [f 1 v6,g l0,m v1,u (.bin .eql l1 l0),m l0,y 0 true (.ld v2 2 true),e 1 true v5,y 2 true (.ca N.bX 0 [] [.l 1,.l 0,.b true]),y 3 true (.bin .geq l0 (.i 0)),u (.pk l4 l0 (.b false))] [] 0 (.reg [m v4,h 2 v2,m v5,u (.ca N.bX 0 [] [.l 1,.l 0,.b false]),u (.mx [.l 3,.l 0]),x 4 l0] []) .skip)))) (.reg [m v5,u (.bin .add l0 (.i 1)),x 5 l0] [])))
def ni:C:= .loop true [0,3,6] K.du
def dO:Fn:= { bK:=2,vars:=[0,1,2,4,5,6,7],body:=(q [w 2 (.bx v0 2),x 3 (.i 0)] [] (q [x 4 (.i 0)] [] (.seq (q [x 5 (.i 0)] [] (.blk 0 K.ni)) (q [m v4,x 3 l0] [] .ret)))),res:=[(3,none)]}
def dD:Fn:= { bK:=2,vars:=[0,1,2,3,4,5],body:=(q [w 2 (.bx v0 2),w 3 (.bx v1 4),x 4 (.b false)] [] (q [f 0 v2,g l0,u (.ln l0),u (.bin .sub l0 (.i 1)),x 5 l0] [] (q [h 2 v2,u (.ca N.cP 0 [] [.l 0]),m l0,y 0 true (.fa v3 0),i 1 true l0,e 2 true v5,y 3 true (.ca N.bN 0 [] [.l 1,.i 0,.l 0]),u (.pk l4 l0 (.b false)),m l0,y 0 true (.fa v3 1),i 1 true l0,e 2 true v5,y 3 true (.ca N.bN 0 [] [.l 1,.i 0,.l 0]),u (.pk l4 l0 (.b false)),m l0,y 0 true (.fa v3 2),i 1 true l0,y 2 true (.fa v2 1),i 3 true l0,y 4 true (.ln l0),y 5 true (.bin .sub l0 (.i 1)),y 6 true (.ca N.bN 0 [] [.l 4,.i 0,.l 0]),u (.pk l7 l0 (.b false)),m l0,y 0 true (.fa v3 3),i 1 true l0,y 2 true (.ca N.dH 0 [] [.l 0,.i 0,.i 2147483648]),u (.pk l3 l0 (.b false)),x 4 l0] [] .ret))),res:=[(4,none)]}
end Go.Ev.K
namespace Go.Ev
class eh [Lib]:Prop where
 eR:Lib.fs N.bC=some K.bC
 kB:Lib.fs N.dO=some K.dO
 jy:Lib.fs N.dD=some K.dD
namespace K
variable [Lib] [eh]
theorem eR:Lib.fs N.bC=some K.bC:=eh.eR
theorem kB:Lib.fs N.dO=some K.dO:=eh.kB
theorem jy:Lib.fs N.dD=some K.dD:=eh.jy
end K
end Go.Ev
namespace Go.Ev.K
open Go.Ev
def bX:Fn:= { bK:=3,vars:=[0,1,2,3,6],body:=(q [w 3 (.bx v0 2),x 4 (.i 0)] [] (q [h 2 v3,m v1,m v2,u (.ca N.bf 0 [] [.l 2,.l 1,.l 0,.i 2,.i 3,.i 4]),x 4 l0] [] .ret)),res:=[(4,none)]}
def jz:C:= (.its [u (.bin .lss v9 v8)] [] 0 .skip (.exit 0) (.seq (.blk 1 (q [m v9,a 10 v7 v9,h 10 l0,w 6 (.al [z0,z0,z0,z0,z1,z1,z0,z0,z0,z0] []),x 5 l3,u (.st l1 l2 10 [])] [] (.seq (.ite [f 1 v6,g l0,m v1,u (.bin .eql l1 l0)] [] 0 (.reg [m v4,h 2 v2,m v5,u (.ca N.dy 0 [] [.l 1,.l 0,.b false]),u (.mx [.l 3,.l 0]),x 4 l0] []) .skip) (.ite [f 0 v6,g l0,m v1,u (.bin .eql l1 l0)] [] 0 (.reg [m v4,h 2 v2,m v5,u (.ca N.dy 0 [] [.l 1,.l 0,.b true]),u (.mx [.l 3,.l 0]),x 4 l0] []) .skip)))) (.reg [u (.bin .add v9 (.i 1)),x 9 l0] [])))
def oZ:C:= .loop true [0,3,5,6] K.jz
def fm:Fn:= { bK:=2,vars:=[0,1,2,4,5,6,7,9,10,11],body:=(q [w 2 (.bx v0 2),x 3 (.i 0)] [] (q [x 4 (.i 0)] [] (.seq (q [f 1 v2,w 7 (.ld l0 1 false),w 8 (.ln l0),x 9 (.i 0)] [] (.blk 0 K.oZ)) (q [m v4,x 3 l0] [] .ret)))),res:=[(3,none)]}
def gu:C:= (.seq (.ite [m v4,m v3,u (.ln l0),u (.bin .lss l2 l0)] [] 0 .skip (.exit 2)) (.seq (.blk 3 (.ite [m v3,m v4,a 1 l1 l0,g l0,m v3,m v4,u (.bin .sub l0 (.i 1)),a 1 l2 l0,g l0,u (.bin .neq l5 l0)] [] 0 (q [m v0,m v2,m v3,m v4,a 1 l1 l0,g l0,a 1 l5 l4,u (.st l0 l1 1 [])] [] (.reg [m v2,u (.bin .add l0 (.i 1)),x 2 l0] [])) .skip)) (.reg [m v4,u (.bin .add l0 (.i 1)),x 4 l0] [])))
def gR:C:= .loop true [1] K.gu
def gv:C:= (.seq (.ite [m v2,m v0,u (.ln l0),u (.bin .lss l2 l0)] [] 0 .skip (.exit 0)) (.seq (.blk 1 (.ite [m v0,m v2,a 1 l1 l0,g l0,m v0,m v2,u (.bin .sub l0 (.i 1)),a 1 l2 l0,g l0,u (.bin .eql l5 l0)] [] 0 (q [m v0,m v2,u (.sc l1 (some l0) none 1),x 3 l0] [] (.seq (q [x 4 (.i 1)] [] (.blk 2 K.gR)) (q [m v0,m v2,u (.sc l1 (some l0) none 1),u (.clr l0 (.int .i64 (0)) 1)] [] (q [m v0,m v2,u (.pop l1 l0),x 1 l0] [] .ret)))) .skip)) (.reg [m v2,u (.bin .add l0 (.i 1)),x 2 l0] [])))
def gS:C:= .loop true [1,3,4] K.gv
def aU:Fn:= { bK:=1,vars:=[0,2,3,4,5],body:=(q [w 1 (.mv (.c (.nil)))] [] (.seq (.ite [m v0,u (.ln l0),u (.bin .lss l0 (.i 2))] [] 0 (q [m v0,x 1 l0] [] .ret) .skip) (.seq (q [x 2 (.i 1)] [] (.blk 0 K.gS)) (q [m v0,x 1 l0] [] .ret)))),res:=[(1,none)]}
def dy:Fn:= { bK:=3,vars:=[0,1,2,3,6],body:=(q [w 3 (.bx v0 2),x 4 (.i 0)] [] (.seq (.ite [h 2 v3,u (.ca N.cP 0 [] [.l 0]),u (.un .not l0),m l0,e 0 false v1,y 1 false (.bin .lss l0 (.i 0)),u (.pk l2 (.b true) l0),m l0,e 0 false v1,y 1 false (.fa v3 1),i 2 false l0,y 3 false (.ln l0),y 4 false (.bin .geq l3 l0),u (.pk l5 (.b true) l0)] [] 0 (q [w 4 (.mv (.i (-1)))] [] .ret) .skip) (q [h 2 v3,m v1,m v2,u (.ca N.dZ 0 [] []),u (.ca N.b8 0 [] [.l 3,.l 2,.l 1,.l 0]),x 4 l0] [(0,4)] .ret))),res:=[(4,none)]}
end Go.Ev.K
namespace Go.Ev
class ea [Lib]:Prop where
 jA:Lib.fs N.bX=some K.bX
 mI:Lib.fs N.fm=some K.fm
 ew:Lib.fs N.aU=some K.aU
 kC:Lib.fs N.dy=some K.dy
namespace K
variable [Lib] [ea]
theorem jA:Lib.fs N.bX=some K.bX:=ea.jA
theorem mI:Lib.fs N.fm=some K.fm:=ea.mI
theorem ew:Lib.fs N.aU=some K.aU:=ea.ew
theorem kC:Lib.fs N.dy=some K.dy:=ea.kC
end K
end Go.Ev
namespace Go.Ev.K
open Go.Ev
def dZ:Fn:= { bK:=0,vars:=[0],body:=(q [w 0 (.al [z0,z0,z0] [])] [] (q [u (.bd [z0,z0,z0] [(0,1,.i 2),(1,1,.i 3),(2,1,.i 4)]),u (.st v0 l0 3 [])] [] .ret)),res:=[(0,some (3,true))]}
end Go.Ev.K
namespace Go.Ev
class eS [Lib]:Prop where
 kD:Lib.fs N.dZ=some K.dZ
namespace K
variable [Lib] [eS]
theorem kD:Lib.fs N.dZ=some K.dZ:=eS.kD
end K
end Go.Ev
namespace Go.Ev
open Go
variable [Lib] [aR] [aS] [bY] [bZ] [dj] [b5] [b6] [cW] [cN] [bE] [bF] [cg] [cj] [eB] [eC] [eh] [ea] [eS]
structure Esc where
 safe:List Int
 bad:List Int
 shut:List Int
 iZ:Int
instance : Dat Esc := ⟨⟨[], [], [], 0⟩⟩
abbrev Esc.e(e:Esc):T:= .agg [tL e.safe,tL e.bad,tL e.shut,tI e.iZ]
structure Esc.ok(m:aX)(e:Esc):Prop where
 s:oO e.safe m.aa.length=true
 b:oO e.bad m.aa.length=true
 h:oO e.shut m.roads.length=true
 l0:0≤e.iZ
 l1:e.iZ≤2147483648
theorem Esc.ok.sl{m:aX}{e:Esc}(hm:m.ok)(h:e.ok m):e.safe.length≤64:=by
 have:=lD h.s;have:=hm.np;omega
theorem Esc.ok.bl{m:aX}{e:Esc}(hm:m.ok)(h:e.ok m):e.bad.length≤64:=by
 have:=lD h.b;have:=hm.np;omega
theorem Esc.ok.hl{m:aX}{e:Esc}(hm:m.ok)(h:e.ok m):e.shut.length≤128:=by
 have:=lD h.h;have:=hm.nr;omega
abbrev dF(m:aX)(k:Nat)(back:Bool):Int:=pn m k back 2 3 4
theorem EN{l s:Int}(l0:1≤l)(l1:l≤100000)(h:s=2∨s=3∨s=4):1≤(10*l+s-1).tdiv s∧(10*l+s-1).tdiv s≤500001:=by
 rcases h with rfl | rfl | rfl
 · rw[Int.tdiv_eq_ediv_of_nonneg (by omega)];omega
 · rw[Int.tdiv_eq_ediv_of_nonneg (by omega)];omega
 · rw[Int.tdiv_eq_ediv_of_nonneg (by omega)];omega
theorem eT{m:aX}(h:m.ok)(k:Nat)(hk:k<m.roads.length)(back:Bool):dF m k back= -1∨1≤dF m k back∧dF m k back≤500001:=by
 have l0:=(h.rs _ (bn hk)).l0
 have l1:=(h.rs _ (bn hk)).l1
 unfold dF pn
 simp only
 split
 · exact .inl rfl
 · refine .inr (EN l0 l1 ?_)
   repeat' split
   all_goals first | exact .inl rfl | exact .inr (.inl rfl) | exact .inr (.inr rfl)
theorem CW:bM 0 N.dZ [] []=some (.t (.agg [tI 2,tI 3,tI 4]),[]):=by
 refine aQ K.kD rfl ?_
 simp(disch:=omega)only[go_sem,K.dZ,↓reduceIte,reduceAdd,reduceSub]
theorem kE{m:aX}(h:m.ok)(k:Nat)(hk:k<m.roads.length)(back:Bool):bM 0 N.dy [.t m.e,I k,B back] []=some (I (dF m k back),[]):=by
 refine aQ K.kC rfl ?_
 have hv:=jo h
 have hw:=H9 h k hk back 2 3 4 (by omega) (by omega) (by omega) (by omega) (by omega) (by omega)
 have hs:=CW
 have nr:=h.nr
 obtain⟨aa,roads⟩:=m
 simp only at*
 simp(disch:=omega)only[go_sem,K.dy,↓reduceIte,hv,hw,hs,reduceAdd,reduceSub]
theorem nS{m:aX}(h:m.ok)(k:Nat)(hk:k<m.roads.length)(back:Bool):bM 0 N.bX [.t m.e,I k,B back] []=some (I (dF m k back),[]):=by
 refine aQ K.jA rfl ?_
 have hw:=zl h k hk back 2 3 4 (by omega) (by omega) (by omega) (by omega) (by omega) (by omega)
 simp(disch:=omega)only[go_sem,K.bX,↓reduceIte,hw,reduceAdd,reduceSub]
theorem sF{m:aX}(hm:m.ok){e:Esc}(he:e.ok m):bM 0 N.dD [.t m.e,.t e.e] []=some (B true,[]):=by
 refine aQ K.jy rfl ?_
 have hv:=jo hm
 have r1:=lE e.safe 0 (m.aa.length-1) (by have:=he.sl hm;omega)
 have r2:=lE e.bad 0 (m.aa.length-1) (by have:=he.bl hm;omega)
 have r3:=lE e.shut 0 (m.roads.length-1) (by have:=he.hl hm;omega)
 rw[qJ,he.s]at r1
 rw[qJ,he.b]at r2
 rw[qJ,he.h]at r3
 have r4:=Hl e.iZ 0 2147483648
 have:=he.l0
 have:=he.l1
 have np:=hm.np
 have nr:=hm.nr
 rw[decide_eq_true (by omega)]at r4
 obtain⟨aa,roads⟩:=m
 obtain⟨safe,bad,shut,iZ⟩:=e
 simp only at*
 simp(disch:=omega)only[go_sem,K.dD,↓reduceIte,hv,r1,r2,r3,r4,reduceAdd,reduceSub]
abbrev Edge.e(e:Edge):T:= .agg [tI e.r,tI e.a,tI e.b,tI e.t]
abbrev Lab.e(x:Lab):T:= .agg [tI x.t,tI x.r]
def uB(sf bd:List Bool)(e:Edge):Bool:= !(nth sf e.a)&& !(nth bd e.b)
def VD(F:Int)(sf:List Bool)(n j:Nat):List Lab:=(List.range n).map fun p=>if decide (p<j)&& !(nth sf p)then⟨F,0⟩else⟨0,0⟩
abbrev Xc:Int:=1152921504606846976
def P0(E:List Edge)(sf bd:List Bool)(n:Nat):List Lab:=PY Xc (uB sf bd) E (VD Xc sf n n)
abbrev VE(sf:List Bool)(p:Nat):Bool:=nth sf p
def Yb(E:List Edge)(sf bd:List Bool)(n p:Nat):List Edge:=PZ (VE sf) (uB sf bd) E (P0 E sf bd n) (nth (P0 E sf bd n) p).r.toNat p
def VF(l:List Bool)(xs:List Int):Nat→List Bool
 | 0=>l
 | j+1=>(VF l xs j).set (nth xs j).toNat true
def VG(m:aX):List Bool:=m.aa.map Place.surf
def sfL(m:aX)(e:Esc):List Bool:=VF (VG m) e.safe e.safe.length
def bdL(m:aX)(e:Esc):List Bool:=VF (List.replicate m.aa.length false) e.bad e.bad.length
def VH(m:aX)(e:Esc)(k:Nat):List Edge:=
 if(k:Int)∈e.shut then []else
  (if 0≤dF m k false then [⟨k,(nth m.roads k).frm.toNat,(nth m.roads k).to.toNat,dF m k false⟩]else [])++
  (if 0≤dF m k true then [⟨k,(nth m.roads k).to.toNat,(nth m.roads k).frm.toNat,dF m k true⟩]else [])
def EO(m:aX)(e:Esc):Nat→List Edge
 | 0=>[]
 | j+1=>EO m e j++VH m e j
def P1(m:aX)(e:Esc):List Edge:=EO m e m.roads.length
end Go.Ev
namespace Go.Ev
open Go
section
variable [Lib]
def Jk(H:ae)(zero:T)(sz:Nat)(x:D):Option (D×ae):=qZ H x zero sz
@[go_sem] theorem Xd (call : av) (get : X → Option D) (H : ae) (x : X) (zero : T) (sz : Nat) : evO call get H (.clr x zero sz) = (get x).bind (Jk H zero sz) := (rfl)
@[go_sem] theorem VI (H : ae) (zero : T) (sz ep n lo hi : Nat) (es : List D) (h1 : n = es.length) (h2 : lo ≤ hi) (h3 : hi ≤ n) : Jk (.arr sz false ep es :: H) zero sz (.sub 0 ep n lo hi) =
 some (.tup [],.arr sz false ep (es.take lo++List.replicate (hi-lo) (.t zero)++es.drop hi)::H):=by
 have a:cQ (.arr sz false ep es::H) 0 ep n=some (sz,false,es):=by
  show(if ep=ep∧n=es.length then some (sz,false,es)else none)=_
  rw[if_pos ⟨rfl,h1⟩]
 simp only[Jk,qZ,a,aLq,Jt]
 by_cases h:hi-lo=0
 · rw[if_pos h,h]
   have:hi=lo:=by omega
   subst this
   simp
 · rw[if_neg h,if_pos (by simp)]
   have:lo+(hi-lo)=hi:=by omega
   rw[this]
   rfl
def Jl(H:ae)(x hi:Option D):Option (D×ae):=x.bind fun a=>(hi.bind intOf).bind fun h=>Mi H a h
@[go_sem] theorem Xe (call : av) (get : X → Option D) (H : ae) (x hi : X) : evO call get H (.pop x hi) = Jl H (get x) (get hi) := (rfl)
@[go_sem] theorem VJ (H : ae) (k : IntKind) (sz ep n : Nat) (i : Int) (es : List D) (h1 : n = es.length) (h2 : 0 ≤ i) (h3 : i ≤ n) : Jl (.arr sz false ep es :: H) (some (.ref 0 ep n)) (some (.t (.int k i))) =
 some (.ref 0 (ep+1) i.toNat,.arr sz false (ep+1) (es.take i.toNat)::H):=by
 have a:cQ (.arr sz false ep es::H) 0 ep n=some (sz,false,es):=by
  show(if ep=ep∧n=es.length then some (sz,false,es)else none)=_
  rw[if_pos ⟨rfl,h1⟩]
 have b:intOf (.t (.int k i))=some i:=rfl
 have c:idx i=some i.toNat:=by unfold idx;rw[if_pos h2]
 simp only[Jl,aLq,b,Mi,a,c]
 rw[if_pos ⟨by omega,trivial⟩]
 rfl
end
variable [Lib] [aR] [aS] [bY] [bZ] [dj] [b5] [b6] [cW] [cN] [bE] [bF] [cg] [cj] [eB] [eC] [eh] [ea] [eS]
def VK(l:List Int)(e:Edge):Bool:= !decide ((e.r:Int)∈l)
def Yc(l:List Int)(E:List Edge):List Edge:=E.filter (VK l)
end Go.Ev
namespace Go.Ev
open Go
variable [Lib] [aR] [aS] [bY] [bZ] [dj] [b5] [b6] [cW] [cN] [bE] [bF] [cg] [cj] [eB] [eC] [eh] [ea] [eS]
def sG(m:aX)(p:Nat):Nat→Int
 | 0=>0
 | j+1=>if(nth m.roads j).frm=p then max (if(nth m.roads j).to=p then max (sG m p j) (dF m j false)else sG m p j) (dF m j true)
  else(if(nth m.roads j).to=p then max (sG m p j) (dF m j false)else sG m p j)
def wq(m:aX)(p:Nat):Int:=sG m p m.roads.length
theorem o5{m:aX}(hm:m.ok)(p:Nat):∀j,j≤m.roads.length→0≤sG m p j∧sG m p j≤500001
 | 0,_=>by simp[sG]
 | j+1,hj=>by
   have ih:=o5 hm p j (by omega)
   have b1:=eT hm j (by omega) false
   have b2:=eT hm j (by omega) true
   unfold sG
   split<;>split<;>omega
theorem Jm{m:aX}(hm:m.ok)(p:Nat)(hp:p<m.aa.length):bM 0 N.fm [.t m.e,I p] []=some (I (wq m p),[]):=by
 refine aQ K.mI rfl ?_
 have np:=hm.np
 have nr:=hm.nr
 have loop:∀z0 z3 z5 z6:D,exS bM K.oZ ⟨[z0,I p,.bp 0 0,z3,I 0,z5,z6,.t (.sl (m.roads.map Road.e)),I m.roads.length,I 0],[.box (ai m)]⟩=
  some (.exit 0,⟨[.und,I p,.bp 0 0,.und,I (wq m p),.und,.und,.t (.sl (m.roads.map Road.e)),I m.roads.length,I m.roads.length],[.box (ai m)]⟩):=by
  intro z0 z3 z5 z6
  refine eJ (fun j=>⟨[.und,I p,.bp 0 0,.und,I (sG m p j),.und,.und,.t (.sl (m.roads.map Road.e)),I m.roads.length,I j],[.box (ai m)]⟩) m.roads.length rfl ?_ ?_ (by simp)
  · intro j hj
    have w1:=kE hm j hj false
    have w2:=kE hm j hj true
    have b0:=o5 hm p j (by omega)
    have b1:=eT hm j hj false
    have b2:=eT hm j hj true
    have ex:(m.roads.map Road.e)[j]?=some (nth m.roads j).e:=ef _ hj
    conv=>rhs;unfold sG
    generalize sG m p j=L at*
    generalize dF m j false=u at*
    generalize dF m j true=v at*
    generalize nth m.roads j=x at*
    obtain⟨frm,to,len,ar,walk,closed,rl,rh,ll,lh⟩:=x
    simp only at*
    obtain⟨aa,roads⟩:=m
    simp only[ai]at*
    by_cases c1:frm=p<;>by_cases c2:to=p
    all_goals simp(disch:=omega)only[go_sem,K.jz,↓reduceIte,ex,w1,w2,c1,c2,reduceAdd,reduceSub]
  · obtain⟨aa,roads⟩:=m
    simp only[ai]at*
    simp(disch:=omega)only[go_sem,K.jz,↓reduceIte,reduceAdd,reduceSub]
    rfl
 generalize wq m p=r at*
 obtain⟨aa,roads⟩:=m
 simp only[ai]at*
 simp(disch:=omega)only[go_sem,K.fm,↓reduceIte,loop,reduceAdd,reduceSub]
abbrev Yd(P:List Edge):List Int:=P.map fun e=>(e.r:Int)
def w1E(m:aX)(e:Esc)(p:Nat):List Edge:=Yb (P1 m e) (sfL m e) (bdL m e) m.aa.length p
def st2(m:aX)(e:Esc)(p:Nat):List Edge:=Yc (Yd (w1E m e p)) (P1 m e)
end Go.Ev
namespace Go.Ev
open Go
variable [Lib]
end Go.Ev
namespace Go.Ev
open Go
variable [Lib] [aR] [aS] [bY] [bZ] [dj] [b5] [b6] [cW] [cN] [bE] [bF] [cg] [cj] [eB] [eC] [eh] [ea] [eS]
theorem wt{m:aX}(hm:m.ok){k:Nat}(hk:k<m.roads.length)(b:Bool):dF m k b= -1↔((nth m.roads k).closed=true∨(nth m.roads k).walk=false):=by
 have l0:=(hm.rs _ (bn hk)).l0
 have l1:=(hm.rs _ (bn hk)).l1
 constructor
 · intro h
   apply Classical.byContradiction
   intro hn
   unfold dF pn at h
   simp only at h
   rw[if_neg hn]at h
   have:=EN (s:=if -10*((nth m.aa (if b=true then(nth m.roads k).frm else(nth m.roads k).to).toNat).h-(nth m.aa (if b=true then(nth m.roads k).to else(nth m.roads k).frm).toNat).h)>(nth m.roads k).len then 3 else if 10*((nth m.aa (if b=true then(nth m.roads k).frm else(nth m.roads k).to).toNat).h-(nth m.aa (if b=true then(nth m.roads k).to else(nth m.roads k).frm).toNat).h)>(nth m.roads k).len then 2 else 4) l0 l1 (by
    repeat' split
    all_goals first | exact .inl rfl | exact .inr (.inl rfl) | exact .inr (.inr rfl))
   omega
 · intro h
   unfold dF pn
   simp only
   rw[if_pos h]
theorem Jn{m:aX}(hm:m.ok)(p:Nat)(hp:p<m.aa.length):bM 0 N.dO [.t m.e,I p] []=some (I (wq m p),[]):=by
 refine aQ K.kB rfl ?_
 have np:=hm.np
 have nr:=hm.nr
 have loop:∀z0 z3 z6:D,exS bM K.ni ⟨[z0,I p,.bp 0 0,z3,I 0,I 0,z6],[.box (ai m)]⟩=
  some (.exit 0,⟨[.und,I p,.bp 0 0,.und,I (wq m p),I m.roads.length,.und],[.box (ai m)]⟩):=by
  intro z0 z3 z6
  refine eJ (fun j=>⟨[.und,I p,.bp 0 0,.und,I (sG m p j),I j,.und],[.box (ai m)]⟩) m.roads.length rfl ?_ ?_ (by simp)
  · intro j hj
    have w1:=nS hm j hj false
    have w2:=nS hm j hj true
    have b0:=o5 hm p j (by omega)
    have b1:=eT hm j hj false
    have b2:=eT hm j hj true
    have i1:=wt hm hj false
    have i2:=wt hm hj true
    have ne:=(hm.rs _ (bn hj)).ne
    have bb:dF m j false= -1↔dF m j true= -1:=i1.trans i2.symm
    have ex:(m.roads.map Road.e)[j]?=some (nth m.roads j).e:=ef _ hj
    clear i1 i2
    conv=>rhs;unfold sG
    generalize sG m p j=L at*
    generalize dF m j false=u at*
    generalize dF m j true=v at*
    generalize nth m.roads j=x at*
    obtain⟨frm,to,len,ar,walk,closed,rl,rh,ll,lh⟩:=x
    simp only at*
    obtain⟨aa,roads⟩:=m
    simp only[ai]at*
    have m1:∀a:Int,0≤a→max a (-1)=a:=fun a h=>by omega
    by_cases c1:frm=p
    · have c2:¬to=p:=fun h=>ne (by rw[c1,h])
      by_cases c3:0≤u
      · simp(disch:=omega)only[go_sem,K.du,↓reduceIte,ex,w1,w2,c1,c2,c3,reduceAdd,reduceSub]
      · have v1:v= -1:=by omega
        subst v1
        simp(disch:=omega)only[go_sem,K.du,↓reduceIte,ex,w1,w2,c1,c2,c3,m1,reduceAdd,reduceSub]
    · by_cases c2:to=p
      · by_cases c3:0≤v
        · simp(disch:=omega)only[go_sem,K.du,↓reduceIte,ex,w1,w2,c1,c2,c3,reduceAdd,reduceSub]
        · have u1:u= -1:=by omega
          subst u1
          simp(disch:=omega)only[go_sem,K.du,↓reduceIte,ex,w1,w2,c1,c2,c3,m1,reduceAdd,reduceSub]
      · simp(disch:=omega)only[go_sem,K.du,↓reduceIte,ex,w1,w2,c1,c2,reduceAdd,reduceSub]
  · obtain⟨aa,roads⟩:=m
    simp only[ai]at*
    simp(disch:=omega)only[go_sem,K.du,↓reduceIte,reduceAdd,reduceSub]
    rfl
 generalize wq m p=r at*
 obtain⟨aa,roads⟩:=m
 simp only[ai]at*
 simp(disch:=omega)only[go_sem,K.dO,↓reduceIte,loop,reduceAdd,reduceSub]
end Go.Ev
namespace Go.Ev.K
open Go.Ev
def bA:Fn:= { bK:=1,vars:=[0,2],body:=(q [w 1 (.mv (.c (.nil)))] [] (q [m v0,m v0,u (.ln l0),m v0,u (.ln l0),u (.s3 l4 l2 l0),x 1 l0] [] .ret)),res:=[(1,none)]}
def ah:Fn:= { bK:=2,vars:=[0,1,4],body:=(q [x 2 (.b false)] [] (q [m v0,m v1,u (.ca N.aj 0 [] [.l 1,.l 0]),u (.bin .geq l0 (.i 0)),x 2 l0] [] .ret)),res:=[(2,none)]}
def bD:Fn:= { bK:=2,vars:=[0,1,2,3],body:=(q [w 2 (.bx v0 2),x 3 (.b false)] [] (q [f 0 v2,g l0,f 0 v1,g l0,u (.ln l0),u (.bin .sub l0 (.i 1)),u (.ca N.dH 0 [] [.l 4,.i 0,.l 0]),u (.un .not l0),m l0,y 0 false (.fa v2 1),i 1 false l0,y 2 false (.ca N.dH 0 [] [.l 0,.i 0,.i 100]),y 3 false (.un .not l0),u (.pk l4 (.b true) l0),x 3 l0] [] .ret)),res:=[(3,none)]}
def aF:Fn:= { bK:=4,vars:=[0,1,2,3,5],body:=(q [x 4 (.b false)] [] (q [m v0,g v1,u (.bin .eql l1 l0),m l0,y 0 false (.fa v2 0),i 1 false l0,e 2 false v0,y 3 false (.ia l1 l0 2),y 4 false (.fa l0 1),i 5 false l0,y 6 false (.un .not l0),e 7 false l0,y 0 true (.fa v3 0),i 1 true l0,e 2 true v0,y 3 true (.ca N.ay 0 [] [.l 1,.l 0]),y 4 true (.un .not l0),y 13 false (.pk l5 l0 (.b false)),u (.pk (.l 14) (.b true) l0),x 4 l0] [] .ret)),res:=[(4,none)]}
def aJ:C:= (.its [u (.bin .lss v5 v4)] [] 0 .skip (.exit 0) (.seq (.blk 1 (q [m v5,x 3 l0] [] (.ite [m v1,m v0,m v3,a 2 l1 l0,h 2 l0,u (.cw l4 0 [] [.l 0])] [] 0 (q [m v3,x 2 l0] [] .ret) .skip))) (.reg [u (.bin .add v5 (.i 1)),x 5 l0] [])))
def bW:C:= .loop true [2,3] K.aJ
def aj:Fn:= { bK:=2,vars:=[0,1,4,5,7,8],body:=(q [x 2 (.i 0)] [] (.seq (q [m v0,w 4 (.ln l0),x 5 (.i 0)] [] (.blk 0 K.bW)) (q [w 2 (.mv (.i (-1)))] [] .ret))),res:=[(2,none)]}
end Go.Ev.K
namespace Go.Ev
class lQ [Lib]:Prop where
 fw:Lib.fs N.bA=some K.bA
 bk:Lib.fs N.ah=some K.ah
 fG:Lib.fs N.bD=some K.bD
 fH:Lib.fs N.aF=some K.aF
 bw:Lib.fs N.aj=some K.aj
namespace K
variable [Lib] [lQ]
theorem fw:Lib.fs N.bA=some K.bA:=lQ.fw
theorem bk:Lib.fs N.ah=some K.ah:=lQ.bk
theorem fG:Lib.fs N.bD=some K.bD:=lQ.fG
theorem fH:Lib.fs N.aF=some K.aF:=lQ.fH
theorem bw:Lib.fs N.aj=some K.aj:=lQ.bw
end K
end Go.Ev
namespace Go.Ev
open Go
variable [Lib] [aR] [aS] [bY] [bZ] [dj] [b5] [b6] [cW] [cN] [bE] [bF] [cg] [cj] [eB] [eC] [eh] [ea] [eS] [gr] [dT] [lQ]
abbrev aH(e:Esc):List D:=[.t (tL e.safe),.t (tL e.bad),.t (tL e.shut),I e.iZ]
def CY(m:aX)(e:Esc)(q x:Int):Bool:=decide (x=q)||(!(nth m.aa x.toNat).surf&& !decide (x∈e.safe))
def okR(m:aX)(e:Esc)(q:Int)(k:Nat)(back:Bool):Bool:=decide (0≤dF m k back)&&(CY m e q ((nth m.roads k).dst back)&& !decide ((nth m.roads k).dst back∈e.bad))
def hR(m:aX)(e:Esc)(q:Int)(k:Nat)(back:Bool)(s:List Int×Bool):List Int×Bool:=
 if(okR m e q k back&&decide (nth s.1 ((nth m.roads k).dst back).toNat+dF m k back<nth s.1 ((nth m.roads k).src back).toNat))=true then
  (s.1.set ((nth m.roads k).src back).toNat (nth s.1 ((nth m.roads k).dst back).toNat+dF m k back),true)else s
def rR(m:aX)(e:Esc)(q:Int)(k:Nat)(s:List Int×Bool):List Int×Bool:=if(k:Int)∈e.shut then s else hR m e q k true (hR m e q k false s)
def rsR(m:aX)(e:Esc)(q:Int)(s:List Int×Bool):Nat→List Int×Bool
 | 0=>s
 | k+1=>rR m e q k (rsR m e q s k)
theorem EP(m:aX)(e:Esc)(q:Int)(k:Nat)(back:Bool)(s:List Int×Bool):(hR m e q k back s).1.length=s.1.length:=by
 unfold hR;split<;>simp
theorem P2(m:aX)(e:Esc)(q:Int)(k:Nat)(s:List Int×Bool):(rR m e q k s).1.length=s.1.length:=by
 unfold rR;split
 · rfl
 · rw[EP,EP]
theorem Av(m:aX)(e:Esc)(q:Int)(s:List Int×Bool):∀k,(rsR m e q s k).1.length=s.1.length
 | 0=>rfl
 | k+1=>by rw[rsR,P2,Av m e q s k]
structure pd(m:aX)(e:Esc)(q:Nat)(d:List Int):Prop where
 len:d.length=m.aa.length
 lo:∀j,0≤nth d j
 hi:∀j,nth d j≤1152921504606846976
 zero:nth d q=0
 suc:∀j,j<m.aa.length→nth d j<1152921504606846976→j=q∨∃k back,k<m.roads.length∧(k:Int)∉e.shut∧okR m e q k back=true∧((nth m.roads k).src back).toNat=j∧nth d ((nth m.roads k).dst back).toNat+dF m k back≤nth d j
theorem wu{m:aX}(hm:m.ok){e:Esc}{q k:Nat}(hk:k<m.roads.length)(hs:(k:Int)∉e.shut)(back:Bool){s:List Int×Bool}(h:pd m e q s.1):pd m e q (hR m e q k back s).1:=by
 unfold hR
 split
 · rename_i c
   obtain⟨c1,c2⟩:=Bool.and_eq_true_iff.1 c
   have c2:=of_decide_eq_true c2
   have c3:=of_decide_eq_true (Bool.and_eq_true_iff.1 c1).1
   have r1:=Road.kU (hm.rs _ (bn hk)) back
   have r2:=Road.m8 (hm.rs _ (bn hk)) back
   obtain⟨len,lo,hi,zero,suc⟩:=h
   have s1:=hi ((nth m.roads k).src back).toNat
   have d0:=lo ((nth m.roads k).dst back).toNat
   have nq:((nth m.roads k).src back).toNat≠q:=fun e=>by rw[e,zero]at c2;omega
   refine⟨by simp[len],fun j=>?_,fun j=>?_,?_,fun j hj=>?_⟩
   · simp only;rw[eP _ _ (by omega)];split
     · omega
     · exact lo j
   · simp only;rw[eP _ _ (by omega)];split
     · omega
     · exact hi j
   · simp only;rw[eP _ _ (by omega),if_neg nq.symm];exact zero
   · simp only;rw[eP _ _ (by omega)]
     have nd:∀ {v:Int},v≤nth s.1 ((nth m.roads k).src back).toNat→∀i,nth (s.1.set ((nth m.roads k).src back).toNat v) i≤nth s.1 i:=fun hv i=>by
      rw[eP _ _ (by omega)]
      split
      · rename_i ei;subst ei;exact hv
      · exact Int.le_refl _
     by_cases ej:j=((nth m.roads k).src back).toNat
     · rw[if_pos ej]
       intro _
       refine .inr ⟨k,back,hk,hs,c1,ej.symm,?_⟩
       have:=nd (v:=nth s.1 ((nth m.roads k).dst back).toNat+dF m k back) (by omega) ((nth m.roads k).dst back).toNat
       omega
     · rw[if_neg ej]
       intro hf
       rcases suc j hj hf with a | ⟨k2,b2,h1,h2,h3,h4,h5⟩
       · exact .inl a
       · refine .inr ⟨k2,b2,h1,h2,h3,h4,?_⟩
         have:=nd (v:=nth s.1 ((nth m.roads k).dst back).toNat+dF m k back) (by omega) ((nth m.roads k2).dst b2).toNat
         omega
 · exact h
theorem P3{m:aX}(hm:m.ok){e:Esc}{q k:Nat}(hk:k<m.roads.length){s:List Int×Bool}(h:pd m e q s.1):pd m e q (rR m e q k s).1:=by
 unfold rR;split
 · exact h
 · rename_i c;exact wu hm hk c true (wu hm hk c false h)
theorem qP{m:aX}(hm:m.ok){e:Esc}{q:Nat}{s:List Int×Bool}(h:pd m e q s.1):∀k,k≤m.roads.length→pd m e q (rsR m e q s k).1
 | 0,_=>h
 | k+1,hk=>P3 hm (by omega) (qP hm h k (by omega))
theorem Jo{gc:Bool}{dead:List Nat}{c:C}{vs:List D}{H:ae}(P:Nat→St→Prop)(n:Nat)(Q:Ex×St→Prop)(h0:P n ⟨fp dead vs,H⟩)
 (hs:∀n st,P n st→(∃st' m,m<n∧fW gc dead st.H.length (exS bM c st)=some st'∧P m st')∨∃q,exS bM c st=some q∧q.1≠ .normal∧Q q):∃q,exS bM (.loop gc dead c) ⟨vs,H⟩=some q∧Q q:=by
 have key:∀(n:Nat) (st:St),P n st→∃q,iQ gc dead (exS bM c) st=some q∧Q q:=by
  intro n
  induction n using Nat.strongRecOn with
  | ind n ih=>
    intro st hp
    rcases hs n st hp with⟨st',m,hm,h1,h2⟩ | ⟨q,h1,h2,h3⟩
    · obtain⟨q,h3,h4⟩:=ih m hm st' h2
      exact⟨q,mw h1 h3,h4⟩
    · exact⟨q,en h1 h2,h3⟩
 exact key n _ h0
def yi(l:List Int):Nat:=(l.map Int.toNat).sum
theorem wx:∀ {l:List Int} {i:Nat} {v:Int},i<l.length→0≤v→v<nth l i→yi (l.set i v)<yi l
 | [],_,_,h,_,_=>by simp at h
 | a::l,0,v,_,h0,hv=>by
   have:v<a:=hv
   simp only[yi,List.set_cons_zero,List.map_cons,List.sum_cons]
   omega
 | a::l,i+1,v,h,h0,hv=>by
   have ih:=wx (l:=l) (i:=i) (v:=v) (by simpa using h) h0 hv
   simp only[yi,List.set_cons_succ,List.map_cons,List.sum_cons]at ih ⊢
   omega
theorem Aw{m:aX}(hm:m.ok){e:Esc}{q k:Nat}(hk:k<m.roads.length)(back:Bool){s:List Int×Bool}(h:pd m e q s.1):hR m e q k back s=s∨(hR m e q k back s).2=true∧yi (hR m e q k back s).1<yi s.1:=by
 unfold hR
 split
 · rename_i c
   right
   obtain⟨c1,c2⟩:=Bool.and_eq_true_iff.1 c
   have c2:=of_decide_eq_true c2
   have c3:=of_decide_eq_true (Bool.and_eq_true_iff.1 c1).1
   have r1:=Road.kU (hm.rs _ (bn hk)) back
   have d0:=h.lo ((nth m.roads k).dst back).toNat
   have ln:=h.len
   exact⟨rfl,wx (by omega) (by omega) c2⟩
 · exact .inl rfl
theorem P4{m:aX}(hm:m.ok){e:Esc}{q k:Nat}(hk:k<m.roads.length){s:List Int×Bool}(h:pd m e q s.1):rR m e q k s=s∨(rR m e q k s).2=true∧yi (rR m e q k s).1<yi s.1:=by
 unfold rR
 split
 · exact .inl rfl
 · rename_i c
   have i1:=wu hm hk c false h
   rcases Aw hm hk false h with e1 | ⟨a1,b1⟩
   · rw[e1];exact Aw hm hk true h
   · rcases Aw hm hk true i1 with e2 | ⟨a2,b2⟩
     · rw[e2];exact .inr ⟨a1,b1⟩
     · exact .inr ⟨a2,by omega⟩
theorem uu{m:aX}(hm:m.ok){e:Esc}{q:Nat}{s:List Int×Bool}(h:pd m e q s.1):∀k,k≤m.roads.length→rsR m e q s k=s∨(rsR m e q s k).2=true∧yi (rsR m e q s k).1<yi s.1
 | 0,_=> .inl rfl
 | k+1,hk=>by
   have i1:=qP hm h k (by omega)
   rw[rsR]
   rcases P4 hm (by omega:k<m.roads.length) i1 with e1 | ⟨a1,b1⟩
   · rw[e1];exact uu hm h k (by omega)
   · right
     refine⟨a1,?_⟩
     rcases uu hm h k (by omega)with e2 | ⟨a2,b2⟩
     · rw[e2]at b1 ⊢;exact b1
     · omega
theorem CZ(m:aX)(e:Esc){q:Nat}(hq:q<m.aa.length):pd m e q ((List.replicate m.aa.length (1152921504606846976:Int)).set q 0):=by
 have n0:∀j,nth (List.replicate m.aa.length (1152921504606846976:Int)) j=if j<m.aa.length then 1152921504606846976 else 0:=fun j=>by
  unfold nth
  rw[aLl,List.getElem?_replicate]
  split<;>rfl
 have n1:∀j,nth ((List.replicate m.aa.length (1152921504606846976:Int)).set q 0) j=if j=q then 0 else if j<m.aa.length then 1152921504606846976 else 0:=fun j=>by
  rw[eP _ _ (by simpa using hq),n0]
 refine⟨by simp,fun j=>?_,fun j=>?_,?_,fun j hj=>?_⟩
 · rw[n1];split
   · omega
   · split<;>omega
 · rw[n1];split
   · omega
   · split<;>omega
 · rw[n1,if_pos rfl]
 · rw[n1]
   split
   · rename_i ej;exact fun _=> .inl ej
   · intro h;omega
theorem Ax{m:aX}(hm:m.ok){e:Esc}(he:e.ok m)(q:Int){x:Int}(hx:0≤x∧x<m.aa.length):
 bM 0 N.aF [I x,.bp 0 0,.bp 1 0,.bp 2 0] [.box [I q],.box (ai m),.box (aH e)]=some (B (CY m e q x),[.box [I q],.box (ai m),.box (aH e)]):=by
 refine aQ K.fH rfl ?_
 have co:=kx e.safe x (by have:=he.sl hm;omega)
 obtain⟨x,rfl⟩:=Int.eq_ofNat_of_zero_le hx.1
 have np:=hm.np
 have pg:=ef Place.e (l:=m.aa) (j:=x) (by omega)
 unfold CY
 rw[Int.toNat_natCast]
 obtain⟨aa,roads⟩:=m
 obtain⟨safe,bad,shut,lim⟩:=e
 simp only[ai,aH]at*
 generalize nth aa x=pl at*
 obtain⟨hgt,surf⟩:=pl
 simp only at*
 by_cases c:(x:Int)=q
 · subst c
   simp(disch:=omega)only[go_sem,K.aF,↓reduceIte,decide_true,Bool.true_or,reduceAdd,reduceSub]
 · cases surf<;>by_cases c2:(x:Int)∈safe
   all_goals (simp only[c2,decide_true,decide_false]at co)
   all_goals simp(disch:=omega)only[go_sem,K.aF,↓reduceIte,pg,co,c,c2,decide_true,decide_false,Bool.true_or,Bool.false_or,Bool.not_true,Bool.not_false,Bool.true_and,Bool.false_and,Bool.and_true,Bool.and_false,reduceAdd,reduceSub]
abbrev lS(r:Road):List D:=[I r.frm,I r.to,I r.len,I r.area,B r.walk,B r.closed,I r.restL,I r.restH,I r.liftL,I r.liftH]
abbrev tmS(m:aX)(e:Esc)(q:Int)(k:Nat)(s:List Int×Bool)(j:Int):St:=⟨[.und,.und,.und,.bp 0 0,.bp 1 0,.und,.und,.fn N.aF [.bp 2 0,.bp 0 0,.bp 1 0],.ref 3 0 m.aa.length,B s.2,I k,.bp 4 0,.und,.und,.und,.und,.t (.sl (m.roads.map Road.e)),I m.roads.length,I k,.t (.agg [.bool false,.bool true]),I j],
 [.box (ai m),.box (aH e),.box [I q],.arr 1 false 0 (ints s.1),.box (lS (nth m.roads k))]⟩
theorem gT{l:List Int}{j:Nat}(h:j<l.length):(l.map (T.int .i64))[j]?=some (tI (nth l j)):=ef _ h
theorem Ay{m:aX}(hm:m.ok){e:Esc}(he:e.ok m){q k:Nat}(hk:k<m.roads.length){s:List Int×Bool}(h:pd m e q s.1)(back:Bool):
 fW true [0,1,2,5,6,12,13,14,15] 5 (exS bM K.aM (tmS m e q k s (if back then 1 else 0)))=some (tmS m e q k (hR m e q k back s) (if back then 2 else 1)):=by
 have np:=hm.np
 have nr:=hm.nr
 have r1:=Road.kU (hm.rs _ (bn hk)) back
 have r2:=Road.m8 (hm.rs _ (bn hk)) back
 have ws:=kE hm k hk back
 have w:=eT hm k hk back
 have pa:=Ax hm he q r2
 have co:=kx e.bad ((nth m.roads k).dst back) (by have:=he.bl hm;omega)
 have ln:=h.len
 have s1:=h.hi ((nth m.roads k).src back).toNat
 have s2:=h.hi ((nth m.roads k).dst back).toNat
 have s3:=h.lo ((nth m.roads k).src back).toNat
 have s4:=h.lo ((nth m.roads k).dst back).toNat
 unfold hR okR
 clear h
 generalize dF m k back=t at*
 generalize CY m e q ((nth m.roads k).dst back)=pp at*
 obtain⟨d,ch⟩:=s
 simp only[tmS]at*
 generalize decide ((nth m.roads k).dst back∈e.bad)=bb at*
 obtain⟨aa,roads⟩:=m
 obtain⟨safe,bad,shut,lim⟩:=e
 simp only[ai,aH,lS]at*
 generalize hx:nth roads k=x at*
 obtain⟨frm,to,len,area,walk,closed,rl,rh,ll,lh⟩:=x
 cases back with
 | false=>
   simp only[Road.src,Road.dst,aLt,↓reduceIte]at*
   obtain⟨a,rfl⟩:=Int.eq_ofNat_of_zero_le r1.1
   obtain⟨b,rfl⟩:=Int.eq_ofNat_of_zero_le r2.1
   simp only[Int.toNat_natCast]at*
   have n1:=gT (l:=d) (j:=a) (by omega)
   have n2:=gT (l:=d) (j:=b) (by omega)
   by_cases c1:0≤t
   · cases pp
     · simp(disch:=omega)only[go_sem,K.aM,↓reduceIte,ws,pa,c1,decide_true,Bool.true_and,Bool.false_and,reduceAdd,reduceSub]
     · cases bb
       · by_cases c2:nth d b+t<nth d a
         · simp(disch:=omega)only[go_sem,K.aM,↓reduceIte,ws,pa,co,n1,n2,c1,c2,decide_true,Bool.true_and,Bool.not_false,List.length_set,reduceAdd,reduceSub]
         · simp(disch:=omega)only[go_sem,K.aM,↓reduceIte,ws,pa,co,n1,n2,c1,c2,decide_true,decide_false,Bool.true_and,Bool.and_false,Bool.not_false,reduceAdd,reduceSub]
       · simp(disch:=omega)only[go_sem,K.aM,↓reduceIte,ws,pa,co,c1,decide_true,Bool.true_and,Bool.and_false,Bool.false_and,Bool.not_true,reduceAdd,reduceSub]
   · simp(disch:=omega)only[go_sem,K.aM,↓reduceIte,ws,pa,c1,decide_false,Bool.false_and,reduceAdd,reduceSub]
 | true=>
   simp only[Road.src,Road.dst,aLt,↓reduceIte]at*
   obtain⟨a,rfl⟩:=Int.eq_ofNat_of_zero_le r1.1
   obtain⟨b,rfl⟩:=Int.eq_ofNat_of_zero_le r2.1
   simp only[Int.toNat_natCast]at*
   have n1:=gT (l:=d) (j:=a) (by omega)
   have n2:=gT (l:=d) (j:=b) (by omega)
   by_cases c1:0≤t
   · cases pp
     · simp(disch:=omega)only[go_sem,K.aM,↓reduceIte,ws,pa,c1,decide_true,Bool.true_and,Bool.false_and,Int.reduceAdd,reduceAdd,reduceSub]
     · cases bb
       · by_cases c2:nth d b+t<nth d a
         · simp(disch:=omega)only[go_sem,K.aM,↓reduceIte,ws,pa,co,n1,n2,c1,c2,decide_true,Bool.true_and,Bool.not_false,List.length_set,Int.reduceAdd,reduceAdd,reduceSub]
         · simp(disch:=omega)only[go_sem,K.aM,↓reduceIte,ws,pa,co,n1,n2,c1,c2,decide_true,decide_false,Bool.true_and,Bool.and_false,Bool.not_false,Int.reduceAdd,reduceAdd,reduceSub]
       · simp(disch:=omega)only[go_sem,K.aM,↓reduceIte,ws,pa,co,c1,decide_true,Bool.true_and,Bool.and_false,Bool.false_and,Bool.not_true,Int.reduceAdd,reduceAdd,reduceSub]
   · simp(disch:=omega)only[go_sem,K.aM,↓reduceIte,ws,pa,c1,decide_false,Bool.false_and,Int.reduceAdd,reduceAdd,reduceSub]
theorem C0{m:aX}(hm:m.ok){e:Esc}(he:e.ok m){q k:Nat}(hk:k<m.roads.length)(hs:(k:Int)∉e.shut){s:List Int×Bool}(h:pd m e q s.1)(z0 z1 z2 z5 z6 z12 z13 z14 z15:D):
 exS bM K.ju ⟨[z0,z1,z2,.bp 0 0,.bp 1 0,z5,z6,.fn N.aF [.bp 2 0,.bp 0 0,.bp 1 0],.ref 3 0 m.aa.length,B s.2,I k,.bp 4 0,z12,z13,z14,z15,.t (.sl (m.roads.map Road.e)),I m.roads.length,I k,.t (.agg [.bool false,.bool true]),I 0],
  [.box (ai m),.box (aH e),.box [I q],.arr 1 false 0 (ints s.1),.box (lS (nth m.roads k))]⟩=some (.exit 4,tmS m e q k (hR m e q k true (hR m e q k false s)) 2):=by
 have e1:=Ay hm he hk h false
 have e2:=Ay hm he hk (wu hm hk hs false h) true
 refine eJ (fun j=>tmS m e q k (match j with | 0=>s | 1=>hR m e q k false s | _=>hR m e q k true (hR m e q k false s)) j) 2 rfl ?_ ?_ (by simp)
 · intro j hj
   match j,hj with
   | 0,_=>exact e1
   | 1,_=>exact e2
 · generalize hR m e q k true (hR m e q k false s)=r
   obtain⟨l2,b2⟩:=r
   simp only[tmS]
   simp(disch:=omega)only[go_sem,K.aM,↓reduceIte,w5,reduceAdd,reduceSub]
abbrev tm2(m:aX)(e:Esc)(q:Int)(k:Nat)(s:List Int×Bool):St:=⟨[.und,.und,.und,.bp 0 0,.bp 1 0,.und,.und,.fn N.aF [.bp 2 0,.bp 0 0,.bp 1 0],.ref 3 0 m.aa.length,B s.2,.und,.und,.und,.und,.und,.und,.t (.sl (m.roads.map Road.e)),I m.roads.length,I k,.und,.und],
 [.box (ai m),.box (aH e),.box [I q],.arr 1 false 0 (ints s.1)]⟩
theorem C1{m:aX}(hm:m.ok){e:Esc}(he:e.ok m){q:Nat}{s:List Int×Bool}(h:pd m e q s.1)(z0 z1 z2 z5 z6 z10 z11 z12 z13 z14 z15 z19 z20:D):
 exS bM K.jv ⟨[z0,z1,z2,.bp 0 0,.bp 1 0,z5,z6,.fn N.aF [.bp 2 0,.bp 0 0,.bp 1 0],.ref 3 0 m.aa.length,B s.2,z10,z11,z12,z13,z14,z15,.t (.sl (m.roads.map Road.e)),I m.roads.length,I 0,z19,z20],
  [.box (ai m),.box (aH e),.box [I q],.arr 1 false 0 (ints s.1)]⟩=some (.exit 2,tm2 m e q m.roads.length (rsR m e q s m.roads.length)):=by
 have nr:=hm.nr
 refine eJ (fun j=>tm2 m e q j (rsR m e q s j)) m.roads.length rfl ?_ ?_ (by simp)
 · intro j hj
   have inv:=qP hm h j (by omega)
   have ln:=Av m e q s j
   simp only[rsR]
   generalize rsR m e q s j=s2 at*
   have co:=kx e.shut j (by have:=he.hl hm;omega)
   have rg:=ef Road.e hj
   unfold rR
   by_cases c:(j:Int)∈e.shut
   · simp only[c,if_true,decide_true]at co ⊢
     obtain⟨d,ch⟩:=s2
     obtain⟨aa,roads⟩:=m
     obtain⟨safe,bad,shut,lim⟩:=e
     simp only[tm2,ai,aH]at*
     clear inv
     generalize nth roads j=x at*
     obtain⟨frm,to,len,area,walk,closed,rl,rh,ll,lh⟩:=x
     simp(disch:=omega)only[go_sem,K.ec,↓reduceIte,co,rg,reduceAdd,reduceSub]
   · simp only[c,if_false,decide_false]at co ⊢
     have lp:=C0 hm he hj c inv
     generalize hR m e q j true (hR m e q j false s2)=s3 at*
     obtain⟨d,ch⟩:=s2
     obtain⟨d3,ch3⟩:=s3
     obtain⟨aa,roads⟩:=m
     obtain⟨safe,bad,shut,lim⟩:=e
     simp only[tm2,tmS,ai,aH,lS]at*
     clear inv
     generalize nth roads j=x at*
     obtain⟨frm,to,len,area,walk,closed,rl,rh,ll,lh⟩:=x
     simp(disch:=omega)only[go_sem,K.ec,↓reduceIte,co,rg,lp,reduceAdd,reduceSub]
 · generalize rsR m e q s m.roads.length=s2 at*
   obtain⟨d,ch⟩:=s2
   obtain⟨aa,roads⟩:=m
   simp only[tm2,ai]at*
   simp(disch:=omega)only[go_sem,K.ec,↓reduceIte,reduceAdd,reduceSub]
theorem C2{m:aX}(hm:m.ok){e:Esc}(he:e.ok m){q:Nat}(hq:q<m.aa.length):
 ∃d,bM 0 N.cC [.t m.e,.t e.e,I q] []=some (.t (tL d),[])∧pd m e q d∧∃c,rsR m e q (d,false) m.roads.length=(d,c)∧c=false:=by
 have np:=hm.np
 have nr:=hm.nr
 have loop:∀z0 z1 z2 z5 z6 z10 z11 z12 z13 z14 z15 z16 z17 z18 z19 z20:D,∃r,exS bM K.jw ⟨[z0,z1,z2,.bp 0 0,.bp 1 0,z5,z6,.fn N.aF [.bp 2 0,.bp 0 0,.bp 1 0],.ref 3 0 m.aa.length,B true,z10,z11,z12,z13,z14,z15,z16,z17,z18,z19,z20],
  [.box (ai m),.box (aH e),.box [I q],.arr 1 false 0 (ints ((List.replicate m.aa.length (1152921504606846976:Int)).set q 0))]⟩=some r∧∃d,pd m e q d∧(∃c,rsR m e q (d,false) m.roads.length=(d,c)∧c=false)∧
  r=(.exit 0,⟨[.und,.und,.und,.bp 0 0,.bp 1 0,.und,.und,.fn N.aF [.bp 2 0,.bp 0 0,.bp 1 0],.ref 3 0 m.aa.length,B false,.und,.und,.und,.und,.und,.und,.und,.und,.und,.und,.und],[.box (ai m),.box (aH e),.box [I q],.arr 1 false 0 (ints d)]⟩):=by
  intro z0 z1 z2 z5 z6 z10 z11 z12 z13 z14 z15 z16 z17 z18 z19 z20
  refine Jo (fun n st=>∃d ch,pd m e q d∧n=(if ch then yi d+1 else 0)∧(ch=false→∃c,rsR m e q (d,false) m.roads.length=(d,c)∧c=false)∧
   st=⟨[.und,.und,.und,.bp 0 0,.bp 1 0,.und,.und,.fn N.aF [.bp 2 0,.bp 0 0,.bp 1 0],.ref 3 0 m.aa.length,B ch,.und,.und,.und,.und,.und,.und,.und,.und,.und,.und,.und],[.box (ai m),.box (aH e),.box [I q],.arr 1 false 0 (ints d)]⟩) _ _ ⟨_,true,CZ m e hq,rfl,fun h=>(by cases h),rfl⟩ ?_
  rintro n st ⟨d,ch,inv,hn,fin,rfl⟩
  cases ch with
  | true=>
    left
    have lp:=C1 hm he (s:=(d,false)) inv
    have inv2:=qP hm (s:=(d,false)) inv m.roads.length (aLs _)
    have sm:=uu hm (s:=(d,false)) inv m.roads.length (aLs _)
    generalize hr:rsR m e q (d,false) m.roads.length=r at*
    obtain⟨d2,ch2⟩:=r
    refine⟨⟨[.und,.und,.und,.bp 0 0,.bp 1 0,.und,.und,.fn N.aF [.bp 2 0,.bp 0 0,.bp 1 0],.ref 3 0 m.aa.length,B ch2,.und,.und,.und,.und,.und,.und,.und,.und,.und,.und,.und],[.box (ai m),.box (aH e),.box [I q],.arr 1 false 0 (ints d2)]⟩,if ch2 then yi d2+1 else 0,?_,?_,d2,ch2,inv2,rfl,fun h=>?_,rfl⟩
    · rcases sm with a | ⟨a,b⟩
      · obtain⟨rfl,rfl⟩:=Prod.mk.inj a
        subst hn;simp
      · simp only at a b;subst a;subst hn;simp;omega
    · obtain⟨aa,roads⟩:=m
      simp only[tm2,ai]at*
      clear inv inv2 sm hr
      simp(disch:=omega)only[go_sem,K.fE,↓reduceIte,lp,reduceAdd,reduceSub]
    · subst h
      rcases sm with a | ⟨a,b⟩
      · obtain⟨rfl, -⟩:=Prod.mk.inj a
        exact⟨false,hr,rfl⟩
      · cases a
  | false=>
    right
    refine⟨_,?_,?_,d,inv,fin rfl,rfl⟩
    · simp(disch:=omega)only[go_sem,K.fE,↓reduceIte,reduceAdd,reduceSub]
    · simp
 have rp:bM 1 N.aG [.t (.sl [tI 1152921504606846976]),I m.aa.length] []=some (.ref 0 0 m.aa.length,[.arr 1 false 0 (((List.replicate m.aa.length (1152921504606846976:Int)).map (T.int .i64)).map .t)]):=by
  have:=zL 1152921504606846976 m.aa.length (by omega) (by omega)
  rw[List.map_replicate,List.map_replicate]
  exact this
 have rl:(List.replicate m.aa.length (1152921504606846976:Int)).length=m.aa.length:=List.length_replicate
 obtain⟨r,hr,d,inv,fin,rfl⟩:=loop (.t m.e) (.t e.e) (I q) (.bp 2 0) .nil .und .und .und .und .und .und .und .und .und .und .und
 refine⟨d,aQ K.gQ rfl ?_,inv,fin⟩
 have dl:=inv.len
 clear loop inv fin
 generalize List.replicate m.aa.length (1152921504606846976:Int)=L at*
 obtain⟨aa,roads⟩:=m
 obtain⟨safe,bad,shut,lim⟩:=e
 simp only[ai,aH]at*
 simp(disch:=omega)only[go_sem,K.cC,↓reduceIte,rp,hr,dl,reduceAdd,reduceSub]
structure Rfg where
 pl:Int
 seats:Int
instance : Dat Rfg := ⟨⟨0, 0⟩⟩
abbrev Rfg.e(r:Rfg):T:= .agg [tI r.pl,tI r.seats]
theorem o6(l:List Rfg)(hl:l.length≤4294967296)(f:Nat)(bs:List (List T))(p:Rfg→Bool)(h:∀x,x∈l→bM 0 f (.t x.e::di bs.length) (aA bs)=some (B (p x),aA bs)):
 bM 0 N.aj [.t (.sl (l.map Rfg.e)),.fn f (di bs.length)] (aA bs)=
 some (I (match (List.range l.length).find? (fun j=>p (nth l j))with | some j=>(j:Int) | none=> -1),aA bs):=by
 refine aQ K.bw rfl ?_
 have loop:∀a b:D,exS bM K.bW ⟨[.t (.sl (l.map Rfg.e)),.fn f (di bs.length),a,b,I l.length,I 0],aA bs⟩=
  some (match (List.range l.length).find? (fun j=>p (nth l j))with
   | some j=>(.ret,⟨[.t (.sl (l.map Rfg.e)),.fn f (di bs.length),I j,I j,I l.length,I j],aA bs⟩)
   | none=>(.exit 0,⟨[.t (.sl (l.map Rfg.e)),.fn f (di bs.length),.und,.und,I l.length,I l.length],aA bs⟩)):=by
  intro a b
  refine ie (fun j=>⟨[.t (.sl (l.map Rfg.e)),.fn f (di bs.length),.und,.und,I l.length,I j],aA bs⟩) l.length (fun j=>p (nth l j)) _ _ rfl ?_ ?_ ?_ (by simp)
  · intro j hj hp
    have hc:=jO (h _ (bn hj)) rfl
    simp(disch:=omega)only[go_sem,K.aJ,↓reduceIte,hc,hp]
  · intro j hj hp
    have hc:=jO (h _ (bn hj)) rfl
    simp(disch:=omega)only[go_sem,K.aJ,↓reduceIte,hp,hc]
    simp
  · simp(disch:=omega)only[go_sem,K.aJ,↓reduceIte]
 simp(disch:=omega)only[go_sem,K.aj,↓reduceIte,loop]
 cases hf:(List.range l.length).find? (fun j=>p (nth l j))with
 | some j=>simp(disch:=omega)only[go_sem,↓reduceIte]
 | none=>simp(disch:=omega)only[go_sem,↓reduceIte]
theorem lT(l:List Rfg)(hl:l.length≤4294967296)(f:Nat)(bs:List (List T))(p:Rfg→Bool)(h:∀x,x∈l→bM 0 f (.t x.e::di bs.length) (aA bs)=some (B (p x),aA bs)):
 bM 0 N.ah [.t (.sl (l.map Rfg.e)),.fn f (di bs.length)] (aA bs)=some (B (l.any p),aA bs):=by
 refine aQ K.bk rfl ?_
 have h:=o6 l hl f bs p h
 have hc:=p7 bM bs f _ 0 (.sl (l.map Rfg.e)) h rfl
 have e:=CG (l:=l) (p:=p)
 cases hf:(List.range l.length).find? (fun j=>p (nth l j))with
 | some j=>rw[hf]at e hc;simp(disch:=omega)only[go_sem,K.ah,↓reduceIte,←e,hc]
 | none=>rw[hf]at e hc;simp(disch:=omega)only[go_sem,K.ah,↓reduceIte,←e,hc,Option.isSome_none]
def ER(m:aX)(r:Rfg):Bool:= !decide (0≤r.pl∧r.pl≤(m.aa.length:Int)-1)|| !decide (0≤r.seats∧r.seats≤100)
theorem Jp{m:aX}(hm:m.ok)(r:Rfg):bM 0 N.bD [.t r.e,.bp 0 0] [.box (ai m)]=some (B (ER m r),[.box (ai m)]):=by
 refine aQ K.fG rfl ?_
 have np:=hm.np
 have i1:=Hl r.pl 0 ((m.aa.length:Int)-1)
 have i2:=Hl r.seats 0 100
 have wk:IntKind.i64.wrap ((m.aa.length:Int)-1)=(m.aa.length:Int)-1:=jd (by omega) (by omega)
 unfold ER
 generalize decide (0≤r.pl∧r.pl≤(m.aa.length:Int)-1)=b at*
 generalize decide (0≤r.seats∧r.seats≤100)=c at*
 obtain⟨aa,roads⟩:=m
 obtain⟨pl,seats⟩:=r
 simp only[ai]at*
 cases b<;>cases c
 all_goals simp(disch:=omega)only[go_sem,K.bD,↓reduceIte,i1,i2,wk,Bool.not_true,Bool.not_false,Bool.true_or,Bool.false_or,reduceAdd,reduceSub]
def xw(m:aX)(l:List Rfg):Bool:=decide ((l.length:Int)≤16)&& !(l.any (ER m))
theorem uv{m:aX}(hm:m.ok)(l:List Rfg)(hl:l.length≤1000000):bM 0 N.cb [.t m.e,.t (.sl (l.map Rfg.e))] []=some (B (xw m l),[]):=by
 refine aQ K.gP rfl ?_
 have va:=jo hm
 have cf:bM 0 N.ah [.t (.sl (l.map Rfg.e)),.fn N.bD [.bp 0 0]] [.box (ai m)]=some (B (l.any (ER m)),[.box (ai m)]):=lT l (by omega) N.bD [[.sl (m.aa.map Place.e),.sl (m.roads.map Road.e)]] (ER m) (fun r _=>Jp hm r)
 unfold xw
 generalize l.any (ER m)=b at*
 have nr:=hm.nr
 have np:=hm.np
 obtain⟨aa,roads⟩:=m
 simp only[ai]at*
 by_cases c:(l.length:Int)≤16
 · cases b
   all_goals simp(disch:=omega)only[go_sem,K.cb,↓reduceIte,va,cf,c,decide_true,Bool.true_and,Bool.not_true,Bool.not_false,reduceAdd,reduceSub]
 · cases b
   all_goals simp(disch:=omega)only[go_sem,K.cb,↓reduceIte,va,cf,c,decide_false,Bool.false_and,reduceAdd,reduceSub]
theorem xx{m:aX}(hm:m.ok){e:Esc}(he:e.ok m){q:Nat}{d:List Int}(h:pd m e q d)(p:Nat)(hp:p<m.aa.length):
 bM 0 N.aV [I p,.bp 0 0,.bp 1 0,.bp 2 0] [.box [.t (tL d)],.box (ai m),.box (aH e)]=some (B (decide (nth d p+wq m p>e.iZ)),[.box [.t (tL d)],.box (ai m),.box (aH e)]):=by
 refine aQ K.eQ rfl ?_
 have np:=hm.np
 have lg:=Jm hm p hp
 have ln:=h.len
 have n1:=gT (l:=d) (j:=p) (by omega)
 have lo:=h.lo p
 have hi:=h.hi p
 have lb:=o5 hm p m.roads.length (aLs _)
 rw[show sG m p m.roads.length=wq m p from rfl]at lb
 generalize wq m p=t at*
 clear h
 obtain⟨aa,roads⟩:=m
 obtain⟨safe,bad,shut,lim⟩:=e
 simp only[ai,aH]at*
 simp(disch:=omega)only[go_sem,K.aV,↓reduceIte,n1,lg,reduceAdd,reduceSub]
abbrev xy(m:aX)(e:Esc)(d:List Int)(p:Int):Bool:=decide (nth d p.toNat+wq m p.toNat>e.iZ)
def VL(m:aX)(e:Esc)(q:Nat)(d:List Int):Prop:=∃c,rsR m e q (d,false) m.roads.length=(d,c)∧c=false
theorem sH{m:aX}(hm:m.ok){e:Esc}(he:e.ok m){l:List Rfg}(hl:xw m l=true){aa:List Int}(hp:oO aa m.aa.length=true){k:Nat}(hk:k<l.length):
 ∃d,pd m e (nth l k).pl.toNat d∧VL m e (nth l k).pl.toNat d∧bM 0 N.bo [I k,.bp 0 0,.bp 1 0,.bp 2 0,.bp 3 0] [.box (ai m),.box (aH e),.box [.t (.sl (l.map Rfg.e))],.box [.t (tL aa)]]=
  some (B (!(aa.any (xy m e d))),[.box (ai m),.box (aH e),.box [.t (.sl (l.map Rfg.e))],.box [.t (tL aa)]]):=by
 have np:=hm.np
 have nr:=hm.nr
 have hv:=Bool.and_eq_true_iff.1 hl
 have l16:=of_decide_eq_true hv.1
 have pk:0≤(nth l k).pl∧(nth l k).pl≤(m.aa.length:Int)-1:=by
  have h2:=hv.2
  rw[Bool.not_eq_true',List.any_eq_false]at h2
  have:=h2 _ (bn hk)
  unfold ER at this
  simp only[Bool.or_eq_true,Bool.not_eq_true',decide_eq_false_iff_not,not_or,Decidable.not_not]at this
  exact this.1
 obtain⟨q,hq⟩:=Int.eq_ofNat_of_zero_le pk.1
 obtain⟨d,td,inv,fx⟩:=C2 hm he (q:=q) (by omega)
 refine⟨d,by rw[hq];exact inv,by rw[hq];exact fx,aQ K.fF rfl ?_⟩
 have cf:bM 0 N.au [.t (tL aa),.fn N.aV [.bp 0 0,.bp 1 0,.bp 2 0]] [.box [.t (tL d)],.box (ai m),.box (aH e)]=some (B (aa.any (xy m e d)),[.box [.t (tL d)],.box (ai m),.box (aH e)]):=
  oP aa (by have:=lD hp;omega) N.aV [[tL d],[.sl (m.aa.map Place.e),.sl (m.roads.map Road.e)],[tL e.safe,tL e.bad,tL e.shut,tI e.iZ]] (xy m e d) (fun p hpm=>by
   have b:=zW hp p hpm
   obtain⟨p,rfl⟩:=Int.eq_ofNat_of_zero_le b.1
   exact xx hm he inv p (by omega))
 have rg:=ef Rfg.e hk
 rw[show(nth l k).e= .agg [tI q,tI (nth l k).seats]by rw[← hq]]at rg
 generalize aa.any (xy m e d)=b at*
 clear inv fx hv hl hp
 obtain⟨plcs,roads⟩:=m
 obtain⟨safe,bad,shut,lim⟩:=e
 simp only[ai,aH]at*
 simp(disch:=omega)only[go_sem,K.bo,↓reduceIte,td,cf,rg,reduceAdd,reduceSub]
theorem xz{m:aX}(hm:m.ok){e:Esc}(he:e.ok m){l:List Rfg}(hl:xw m l=true){aa:List Int}(hp:oO aa m.aa.length=true)(hn:0<aa.length):
 ∃D:Nat→List Int,(∀k,k<l.length→pd m e (nth l k).pl.toNat (D k)∧VL m e (nth l k).pl.toNat (D k))∧
  bM 0 N.b9 [.t m.e,.t e.e,.t (.sl (l.map Rfg.e)),.t (tL aa)] []=some (.tup [.t (tL (eK l.length fun k=> !(aa.any (xy m e (D k))))),I 0],[]):=by
 have np:=hm.np
 have nr:=hm.nr
 have l16:=of_decide_eq_true (Bool.and_eq_true_iff.1 hl).1
 have ch:∃D:Nat→List Int,∀k,k<l.length→pd m e (nth l k).pl.toNat (D k)∧VL m e (nth l k).pl.toNat (D k)∧bM 0 N.bo [I k,.bp 0 0,.bp 1 0,.bp 2 0,.bp 3 0] [.box (ai m),.box (aH e),.box [.t (.sl (l.map Rfg.e))],.box [.t (tL aa)]]=
  some (B (!(aa.any (xy m e (D k)))),[.box (ai m),.box (aH e),.box [.t (.sl (l.map Rfg.e))],.box [.t (tL aa)]]):=by
  refine⟨fun k=>if hk:k<l.length then Classical.choose (sH hm he hl hp hk)else [],fun k hk=>?_⟩
  simp only[dif_pos hk]
  exact Classical.choose_spec (sH hm he hl hp hk)
 obtain⟨D,hD⟩:=ch
 refine⟨D,fun k hk=>⟨(hD k hk).1,(hD k hk).2.1⟩,aQ K.gO rfl ?_⟩
 have wv:=sF hm he
 have rv:=uv hm l (by omega)
 rw[hl]at rv
 have ri:=lE aa 0 (m.aa.length-1) (by have:=lD hp;omega)
 rw[qJ,hp]at ri
 have wh:bM 0 N.cG [I l.length,.fn N.bo [.bp 0 0,.bp 1 0,.bp 2 0,.bp 3 0]] [.box (ai m),.box (aH e),.box [.t (.sl (l.map Rfg.e))],.box [.t (tL aa)]]=some (.t (tL (eK l.length fun k=> !(aa.any (xy m e (D k))))),[.box (ai m),.box (aH e),.box [.t (.sl (l.map Rfg.e))],.box [.t (tL aa)]]):=
  Cb l.length (by omega) N.bo [[.sl (m.aa.map Place.e),.sl (m.roads.map Road.e)],[tL e.safe,tL e.bad,tL e.shut,tI e.iZ],[.sl (l.map Rfg.e)],[tL aa]] (fun k=> !(aa.any (xy m e (D k)))) (fun k hk=>(hD k hk).2.2)
 generalize (eK l.length fun k=> !(aa.any (xy m e (D k))))=r at*
 have wk:IntKind.i64.wrap ((m.aa.length:Int)-1)=(m.aa.length:Int)-1:=jd (by omega) (by omega)
 clear hD hl hp
 have sc:([Ev.D.t (tL r),I 0].all dR)=false:=rfl
 obtain⟨plcs,roads⟩:=m
 obtain⟨safe,bad,shut,lim⟩:=e
 simp only[ai,aH]at*
 simp(disch:=omega)only[go_sem,K.b9,↓reduceIte,wv,rv,ri,wh,wk,sc,Bool.not_true,Bool.not_false,reduceAdd,reduceSub]
def lwH(m:aX)(e:Esc)(k:Nat)(back:Bool)(T:List Int):List Int:=
 if(decide (0≤dF m k back)&& !decide ((k:Int)∈e.shut))=true then T.set ((nth m.roads k).dst back).toNat (min (nth T ((nth m.roads k).dst back).toNat) (nth T ((nth m.roads k).src back).toNat+dF m k back))else T
def mJ(m:aX)(e:Esc)(T:List Int):Nat→List Int
 | 0=>T
 | k+1=>lwH m e k true (lwH m e k false (mJ m e T k))
def lwN(m:aX)(e:Esc)(T:List Int):Nat→List Int
 | 0=>T
 | n+1=>lwN m e (mJ m e T m.roads.length) n
theorem jB(m:aX)(e:Esc)(k:Nat)(back:Bool)(T:List Int):(lwH m e k back T).length=T.length:=by
 unfold lwH;split<;>simp
theorem fo(m:aX)(e:Esc)(T:List Int):∀k,(mJ m e T k).length=T.length
 | 0=>rfl
 | k+1=>by rw[mJ,jB,jB,fo m e T k]
theorem uw(m:aX)(e:Esc):∀n T,(lwN m e T n).length=T.length
 | 0,T=>rfl
 | n+1,T=>by rw[lwN,uw m e n,fo]
theorem wy(m:aX)(e:Esc):∀n T,lwN m e T (n+1)=mJ m e (lwN m e T n) m.roads.length
 | 0,T=>rfl
 | n+1,T=>by
   have:=wy m e n (mJ m e T m.roads.length)
   rw[lwN,this];rfl
theorem qf{m:aX}(hm:m.ok)(e:Esc){k:Nat}(hk:k<m.roads.length)(back:Bool){T:List Int}(hT:T.length=m.aa.length)(i:Nat):nth (lwH m e k back T) i≤nth T i:=by
 have r2:=Road.m8 (hm.rs _ (bn hk)) back
 unfold lwH
 split
 · rw[eP _ _ (by omega)]
   split
   · rename_i ei;subst ei;omega
   · exact Int.le_refl _
 · exact Int.le_refl _
theorem ux{m:aX}(hm:m.ok)(e:Esc){T:List Int}(hT:T.length=m.aa.length)(i:Nat):∀k,k≤m.roads.length→nth (mJ m e T k) i≤nth T i
 | 0,_=>Int.le_refl _
 | k+1,hk=>by
   have ih:=ux hm e hT i k (by omega)
   have ln:=fo m e T k
   have a:=qf hm e (by omega:k<m.roads.length) false (T:=mJ m e T k) (by omega) i
   have b:=qf hm e (by omega:k<m.roads.length) true (T:=lwH m e k false (mJ m e T k)) (by rw[jB];omega) i
   rw[mJ]
   omega
theorem Az{m:aX}(hm:m.ok)(e:Esc){T:List Int}(hT:T.length=m.aa.length)(i:Nat):∀j k,j≤k→k≤m.roads.length→nth (mJ m e T k) i≤nth (mJ m e T j) i:=by
 intro j k
 induction k with
 | zero=>intro h _;rw[show j=0 by omega];exact Int.le_refl _
 | succ k ih=>
   intro h hk
   by_cases ej:j=k+1
   · subst ej;exact Int.le_refl _
   · have ih:=ih (by omega) (by omega)
     have ln:=fo m e T k
     have a:=qf hm e (by omega:k<m.roads.length) false (T:=mJ m e T k) (by omega) i
     have b:=qf hm e (by omega:k<m.roads.length) true (T:=lwH m e k false (mJ m e T k)) (by rw[jB];omega) i
     rw[mJ]
     omega
theorem AA{m:aX}(hm:m.ok){e:Esc}{k:Nat}(hk:k<m.roads.length){back:Bool}(hs:(k:Int)∉e.shut)(h0:0≤dF m k back){T:List Int}(hT:T.length=m.aa.length):nth (lwH m e k back T) ((nth m.roads k).dst back).toNat≤nth T ((nth m.roads k).src back).toNat+dF m k back:=by
 have r2:=Road.m8 (hm.rs _ (bn hk)) back
 unfold lwH
 rw[if_pos (by simp[hs,h0]),eP _ _ (by omega),if_pos rfl]
 omega
theorem C3{m:aX}(hm:m.ok){e:Esc}{k:Nat}(hk:k<m.roads.length){back:Bool}(hs:(k:Int)∉e.shut)(h0:0≤dF m k back){T:List Int}(hT:T.length=m.aa.length):nth (mJ m e T m.roads.length) ((nth m.roads k).dst back).toNat≤nth T ((nth m.roads k).src back).toNat+dF m k back:=by
 have l1:=Az hm e hT ((nth m.roads k).dst back).toNat (k+1) m.roads.length (by omega) (aLs _)
 have l0:=ux hm e hT ((nth m.roads k).src back).toNat k (by omega)
 have ln:=fo m e T k
 rw[mJ]at l1
 cases back with
 | false=>
   have a:=AA hm hk hs h0 (T:=mJ m e T k) (by omega)
   have b:=qf hm e hk true (T:=lwH m e k false (mJ m e T k)) (by rw[jB];omega) ((nth m.roads k).dst false).toNat
   omega
 | true=>
   have a:=AA hm hk hs h0 (T:=lwH m e k false (mJ m e T k)) (by rw[jB];omega)
   have b:=qf hm e hk false (T:=mJ m e T k) (by omega) ((nth m.roads k).src true).toNat
   omega
theorem ES{m:aX}(hm:m.ok)(e:Esc)(i:Nat):∀n T,T.length=m.aa.length→nth (lwN m e T n) i≤nth T i
 | 0,T,_=>Int.le_refl _
 | n+1,T,hT=>by
   have ih:=ES hm e i n (mJ m e T m.roads.length) (by rw[fo];exact hT)
   have:=ux hm e hT i m.roads.length (aLs _)
   rw[lwN]
   omega
def P5(d:List Int)(n:Nat)(v:Int):Nat:=((List.range n).filter fun x=>decide (nth d x<v)).length
theorem Jq(d:List Int)(n:Nat)(v:Int):P5 d n v≤n:=by
 have:=List.length_filter_le (fun x=>decide (nth d x<v)) (List.range n)
 rw[List.length_range]at this
 exact this
theorem AB{d:List Int}{n x:Nat}{v:Int}(hx:x<n)(h:nth d x<v):P5 d n (nth d x)<P5 d n v:=by
 unfold P5
 have key:∀l:List Nat,x∈l→(l.filter fun y=>decide (nth d y<nth d x)).length<(l.filter fun y=>decide (nth d y<v)).length:=by
  intro l
  induction l with
  | nil=>intro h;simp at h
  | cons a l ih=>
    intro hm
    have sub:(l.filter fun y=>decide (nth d y<nth d x)).length≤(l.filter fun y=>decide (nth d y<v)).length:=by
     clear ih hm
     induction l with
     | nil=>simp
     | cons b l ih=>
       simp only[List.filter_cons]
       by_cases c:nth d b<nth d x
       · rw[if_pos (by simpa using c),if_pos (by simp;omega)];simp only[List.length_cons];omega
       · rw[if_neg (by simpa using c)]
         split
         · simp only[List.length_cons];omega
         · exact ih
    simp only[List.filter_cons]
    by_cases c:a=x
    · subst c
      rw[if_neg (by simp),if_pos (by simpa using h)]
      simp only[List.length_cons];omega
    · have ih:=ih (by rcases List.mem_cons.1 hm with e | e;exact absurd e.symm c;exact e)
      by_cases c2:nth d a<nth d x
      · rw[if_pos (by simpa using c2),if_pos (by simp;omega)];simp only[List.length_cons];omega
      · rw[if_neg (by simpa using c2)]
        split
        · simp only[List.length_cons];omega
        · exact ih
 exact key _ (aLu.2 hx)
theorem C4{m:aX}(hm:m.ok){e:Esc}{q:Nat}{d:List Int}(h:pd m e q d):∀(n j:Nat) (T:List Int),T.length=m.aa.length→j<m.aa.length→nth d j<1152921504606846976→P5 d m.aa.length (nth d j)≤n→nth (lwN m e T n) q≤nth T j+nth d j:=by
 intro n
 induction n with
 | zero=>
   intro j T hT hj hf hc
   rcases h.suc j hj hf with rfl | ⟨k,b,h1,h2,h3,h4,h5⟩
   · rw[h.zero,lwN];omega
   · have s0:=of_decide_eq_true (Bool.and_eq_true_iff.1 h3).1
     have s1:=eT hm k h1 b
     have r2:=Road.m8 (hm.rs _ (bn h1)) b
     have:=AB (d:=d) (n:=m.aa.length) (x:=((nth m.roads k).dst b).toNat) (v:=nth d j) (by omega) (by omega)
     omega
 | succ n ih=>
   intro j T hT hj hf hc
   rcases h.suc j hj hf with rfl | ⟨k,b,h1,h2,h3,h4,h5⟩
   · have:=ES hm e j (n+1) T hT
     rw[h.zero];omega
   · have s0:=of_decide_eq_true (Bool.and_eq_true_iff.1 h3).1
     have s1:=eT hm k h1 b
     have r2:=Road.m8 (hm.rs _ (bn h1)) b
     have:=AB (d:=d) (n:=m.aa.length) (x:=((nth m.roads k).dst b).toNat) (v:=nth d j) (by omega) (by omega)
     have ih:=ih ((nth m.roads k).dst b).toNat (mJ m e T m.roads.length) (by rw[fo];exact hT) (by omega) (by omega) (by omega)
     have rl:=C3 hm h1 h2 s0 hT
     rw[h4]at rl
     rw[lwN]
     omega
end Go.Ev
namespace Go.Ev
open Go
variable [Lib] [aR] [aS] [bY] [bZ] [dj] [b5] [b6] [cW] [cN] [bE] [bF] [cg] [cj] [eB] [eC] [eh] [ea] [eS]
theorem AD{d:az}(hd:d.cV)(k n:Int)(h0:0≤k)(hk:k≤1000)(h1:1≤n)(hn:n≤1000):
 ∃(b:Bool) (d2:az) (x:Int) (d3:az),bM 0 N.aN [.bp 0 0,I k] [d.obj]=some (B b,[d2.obj])∧(b=true∧bM 0 N.aq [.bp 0 0,I n] [d2.obj]=some (I x,[d3.obj])∨b=false∧d2=d3)∧d3.cV∧0≤x∧x<n:=by
 obtain⟨b,d2,c2,l2⟩:=Vj hd k h0 (by omega)
 obtain⟨x,d3,c3,l3,x0,x1⟩:=zy l2 n h1 (by omega)
 cases b with
 | true=>exact⟨true,d2,x,d3,c2,.inl ⟨rfl,c3⟩,l3,x0,x1⟩
 | false=>exact⟨false,d2,x,d2,c2,.inr ⟨rfl,rfl⟩,l2,x0,x1⟩
theorem o7{b:Bool}{x n:Int}(h0:0≤x)(h1:x<n):oO (if b=true then [x]else []) n=true:=by
 cases b with
 | true=>exact Ey h0 h1
 | false=>rfl
theorem C5{d:az}(hd:d.cV){m:aX}(hm:m.ok)(h1:1≤m.aa.length)(h2:1≤m.roads.length):
 ∃(e:Esc) (d':az),bM 0 N.bC [.bp 0 0,.t m.e] [d.obj]=some (.t e.e,[d'.obj])∧d'.cV∧e.ok m∧e.iZ≤1000∧e.safe.length≤1∧e.bad.length≤1∧e.shut.length≤1:=by
 have np:=hm.np
 have nr:=hm.nr
 obtain⟨lim,d1,c1,l1,m1⟩:=X2 hd [600,100,60,1000,0] (by simp) (by simp)
 have lm:0≤lim∧lim≤1000:=by
  simp only[List.mem_cons,List.not_mem_nil,or_false]at m1
  omega
 have c1:bM 0 N.bc [.bp 0 0,.t (.sl [tI 600,tI 100,tI 60,tI 1000,tI 0])] [d.obj]=some (I lim,[d1.obj]):=c1
 obtain⟨b1,d2,x1,d3,a1,a2,l3,x10,x11⟩:=AD l1 3 m.aa.length (by omega) (by omega) (by omega) (by omega)
 obtain⟨b2,d4,x2,d5,a4,a5,l5,x20,x21⟩:=AD l3 4 m.aa.length (by omega) (by omega) (by omega) (by omega)
 obtain⟨b3,d6,x3,d7,a7,a8,l7,x30,x31⟩:=AD l5 4 m.roads.length (by omega) (by omega) (by omega) (by omega)
 refine⟨⟨if b1=true then [x1]else [],if b2=true then [x2]else [],if b3=true then [x3]else [],lim⟩,d7,?_,l7,⟨o7 x10 x11,o7 x20 x21,o7 x30 x31,lm.1,by simp only;omega⟩,lm.2,?_,?_,?_⟩
 · refine aQ K.eR rfl ?_
   obtain⟨aa,roads⟩:=m
   simp only[ai]at*
   have r0:(0:Int)<roads.length:=by omega
   rcases a2 with⟨rfl,a2⟩ | ⟨rfl,a2⟩<;>rcases a5 with⟨rfl,a5⟩ | ⟨rfl,a5⟩<;>rcases a8 with⟨rfl,a8⟩ | ⟨rfl,a8⟩
   all_goals
    simp(disch:=omega)only[go_sem,K.bC,↓reduceIte,c1,a1,a2,a4,a5,a7,a8,r0,reduceAdd,reduceSub]
    rfl
 · cases b1<;>simp
 · cases b2<;>simp
 · cases b3<;>simp
end Go.Ev
namespace Go.Ev
open Go
variable [Lib] [aR] [aS] [bY] [bZ] [dj] [b5] [b6] [cW] [cN] [bE] [bF] [cg] [cj] [eB] [eC] [eh] [ea] [eS] [gr] [dT] [lQ]
def Bo(T:List Int):Prop:=∀j,0≤nth T j∧nth T j≤1099511627776
theorem uy{m:aX}(hm:m.ok)(e:Esc){k:Nat}(hk:k<m.roads.length)(back:Bool){T:List Int}(hT:T.length=m.aa.length)(h:Bo T):Bo (lwH m e k back T):=by
 have r2:=Road.m8 (hm.rs _ (bn hk)) back
 unfold lwH
 split
 · rename_i c
   have c:=of_decide_eq_true (Bool.and_eq_true_iff.1 c).1
   intro j
   rw[eP _ _ (by omega)]
   have:=h j
   have:=h ((nth m.roads k).dst back).toNat
   have:=h ((nth m.roads k).src back).toNat
   split<;>omega
 · exact h
theorem qQ{m:aX}(hm:m.ok)(e:Esc){T:List Int}(hT:T.length=m.aa.length)(h:Bo T):∀k,k≤m.roads.length→Bo (mJ m e T k)
 | 0,_=>h
 | k+1,hk=>by
   have ln:=fo m e T k
   exact uy hm e (by omega) true (by rw[jB];omega) (uy hm e (by omega) false (by omega) (qQ hm e hT h k (by omega)))
theorem uz{m:aX}(hm:m.ok)(e:Esc):∀n T,T.length=m.aa.length→Bo T→Bo (lwN m e T n)
 | 0,T,_,h=>h
 | n+1,T,hT,h=>uz hm e n _ (by rw[fo];exact hT) (qQ hm e hT h _ (aLs _))
abbrev rr3(d:az)(m:aX)(e:Esc)(p q:Int)(L:D)(n:Nat)(T:List Int)(k:Nat):St:=⟨[.und,.und,.und,.bp 1 0,.bp 2 0,I p,I q,L,I 0,.ref 3 0 m.aa.length,.und,I n,I k,.und,.und,.und,.und],[d.obj,.box (ai m),.box (aH e),.arr 1 false 0 (ints T)]⟩
theorem P6(d:az){m:aX}(hm:m.ok){e:Esc}(he:e.ok m)(p q:Int)(ts:Ev.T)(n:Nat){T:List Int}(hT:T.length=m.aa.length)(hb:Bo T){k:Nat}(hk:k<m.roads.length):
 fW true [0,1,2,10,13,14,15,16] 4 (exS bM K.aP (rr3 d m e p q (.t ts) n T k))=some (rr3 d m e p q (.t ts) n (lwH m e k true (lwH m e k false T)) (k+1)):=by
 have np:=hm.np
 have nr:=hm.nr
 have f1:=Road.kU (hm.rs _ (bn hk)) false
 have f2:=Road.m8 (hm.rs _ (bn hk)) false
 have s1:=nS hm k hk false
 have s2:=nS hm k hk true
 have b1:=eT hm k hk false
 have b2:=eT hm k hk true
 have ha:=OQ e.shut k (by have:=he.hl hm;omega)
 have rg:=ef Road.e hk
 have hb2:Bo (lwH m e k false T):=uy hm e hk false hT hb
 have hT2:(lwH m e k false T).length=T.length:=jB m e k false T
 unfold lwH at hb2 hT2 ⊢
 generalize dF m k false=t1 at*
 generalize dF m k true=t2 at*
 obtain⟨aa,roads⟩:=m
 obtain⟨safe,bad,shut,lim⟩:=e
 simp only[rr3,ai,aH]at*
 generalize hx:nth roads k=x at*
 obtain⟨frm,to,len,area,walk,closed,rl,rh,ll,lh⟩:=x
 simp only[Road.src,Road.dst,aLt,↓reduceIte]at*
 obtain⟨a,rfl⟩:=Int.eq_ofNat_of_zero_le f1.1
 obtain⟨b,rfl⟩:=Int.eq_ofNat_of_zero_le f2.1
 simp only[Int.toNat_natCast]at*
 clear hm he hx
 generalize decide ((k:Int)∈shut)=sh at*
 cases sh with
 | true=>
   simp only[Bool.not_true,Bool.and_false,aLt,if_false]at*
   by_cases c1:0≤t1<;>by_cases c2:0≤t2
   all_goals simp(disch:=omega)only[go_sem,K.aP,↓reduceIte,rg,s1,s2,ha,c1,c2,Bool.not_true,Bool.true_and,Bool.false_and,Bool.and_false,reduceAdd,reduceSub]
 | false=>
   simp only[Bool.not_false,Bool.and_true,decide_eq_true_eq]at*
   have n1:=gT (l:=T) (j:=a) (by omega)
   have n2:=gT (l:=T) (j:=b) (by omega)
   have ba:=hb a
   have bb:=hb b
   by_cases c1:0≤t1
   · simp only[c1,if_true]at hb2 hT2 ⊢
     have m1:=gT (l:=T.set b (min (nth T b) (nth T a+t1))) (j:=a) (by omega)
     have m2:=gT (l:=T.set b (min (nth T b) (nth T a+t1))) (j:=b) (by omega)
     have ba2:=hb2 a
     have bb2:=hb2 b
     by_cases c2:0≤t2
     · simp(disch:=omega)only[go_sem,K.aP,↓reduceIte,rg,s1,s2,ha,c1,c2,n1,n2,m1,m2,hT2,reduceAdd,reduceSub]
     · simp(disch:=omega)only[go_sem,K.aP,↓reduceIte,rg,s1,s2,ha,c1,c2,n1,n2,m1,m2,hT2,reduceAdd,reduceSub]
   · simp only[c1,if_false]at hb2 hT2 ⊢
     by_cases c2:0≤t2
     · simp(disch:=omega)only[go_sem,K.aP,↓reduceIte,rg,s1,s2,ha,c1,c2,n1,n2,reduceAdd,reduceSub]
     · simp(disch:=omega)only[go_sem,K.aP,↓reduceIte,rg,s1,s2,ha,c1,c2,n1,n2,reduceAdd,reduceSub]
end Go.Ev
namespace Go.Ev
open Go
variable [Lib] [aR] [aS] [bY] [bZ] [dj] [b5] [b6] [cW] [cN] [bE] [bF] [cg] [cj] [eB] [eC] [eh] [ea] [eS]
structure BkG(m:aX)(l:List Int)(j:Nat):Prop where
 s:oO l (j:Int)=true
 ln:l.length≤j
 c:∀x∈l,(nth m.roads x.toNat).closed=false
theorem BkG.zero(m:aX):BkG m [] 0:=⟨rfl,aLs _,by simp⟩
theorem BkG.skip{m:aX}{l:List Int}{j:Nat}(h:BkG m l j):BkG m l (j+1):=⟨(sB h.s).1,by have:=h.ln;omega,h.c⟩
theorem BkG.add{m:aX}{l:List Int}{j:Nat}(h:BkG m l j)(hc:(nth m.roads j).closed=false):BkG m (l++[(j:Int)]) (j+1):=by
 refine⟨(sB h.s).2,by have:=h.ln;simp;omega,fun x hx=>?_⟩
 rcases List.mem_append.1 hx with hx | hx
 · exact h.c x hx
 · rw[List.mem_singleton]at hx
   subst hx
   rw[Int.toNat_natCast]
   exact hc
end Go.Ev
namespace Go.Ev
open Go
variable [Lib] [aR] [aS] [bY] [bZ] [dj] [b5] [b6] [cW] [cN] [bE] [bF] [cg] [cj] [eB] [eC] [eh] [ea] [eS] [gr] [dT] [lQ]
theorem xA(aw:bM 0 N.c8 [] []=some (B true,[]))(li:List Int):bM 0 N.aE [.t (tL li)] []=some (B true,[]):=by
 refine aQ K.dP rfl ?_
 have lo:=Cf li
 by_cases c:li.length≤400
 · simp only[c,decide_true]at lo
   have ro:=Pa li
   have d0:(az.mk li 0).cV:=c
   generalize (az.mk li 0)=d at*
   obtain⟨m,e1,mo,l1,hm,p1,p2,r1,r2⟩:=Pb d0
   obtain⟨e,e2,eo,l2,he,lim, -⟩:=C5 l1 hm (by omega) (by omega)
   obtain⟨p,e3,po,l3,q1,q2⟩:=zy l2 m.aa.length (by omega) (by omega)
   obtain⟨q,e4,qo,l4,q3,q4⟩:=zy l3 m.aa.length (by omega) (by omega)
   obtain⟨p,rfl⟩:=Int.eq_ofNat_of_zero_le q1
   obtain⟨q,rfl⟩:=Int.eq_ofNat_of_zero_le q3
   have np:=hm.np
   have nr:=hm.nr
   have rv:xw m [⟨q,1⟩]=true:=by
    have b1:(0:Int)≤q∧(q:Int)≤(m.aa.length:Int)-1:=by omega
    simp[xw,ER,b1]
   obtain⟨D,hD,rc⟩:=xz hm he (l:=[⟨q,1⟩]) rv (aa:=[(p:Int)]) (Ey q1 q2) (by simp)
   obtain⟨inv, -⟩:=hD 0 (by simp)
   have wl:(eK 1 fun k=> !(([(p:Int)]:List Int).any (xy m e (D k))))=if nth (D 0) p+wq m p>e.iZ then []else [0]:=by
    rw[kv]
    by_cases c2:nth (D 0) p+wq m p>e.iZ
    · simp[xy,c2,eK]
    · simp[xy,c2,eK]
   have rc:bM 0 N.b9 [.t m.e,.t e.e,.t (.sl [.agg [tI q,tI 1]]),.t (.sl [tI p])] []=some (.tup [.t (tL (eK 1 fun k=> !(([(p:Int)]:List Int).any (xy m e (D k))))),I 0],[]):=rc
   rw[wl]at rc
   have inv:pd m e q (D 0):=inv
   generalize D 0=dd at*
   have lb:=o5 hm p m.roads.length (aLs _)
   rw[show sG m p m.roads.length=wq m p from rfl]at lb
   have rl:=Jn hm p (by omega)
   have dlo:=inv.lo p
   have T0l:((List.replicate m.aa.length (1099511627776:Int)).set p 0).length=m.aa.length:=by simp
   have T0n:∀j,nth ((List.replicate m.aa.length (1099511627776:Int)).set p 0) j=if j=p then 0 else if j<m.aa.length then 1099511627776 else 0:=fun j=>by
    rw[eP _ _ (by simpa using by omega)]
    congr 1
    unfold nth
    rw[aLl,List.getElem?_replicate]
    split<;>rfl
   have T0b:Bo ((List.replicate m.aa.length (1099511627776:Int)).set p 0):=fun j=>by
    rw[T0n];split
    · omega
    · split<;>omega
   have fin:nth dd p<1152921504606846976→nth (lwN m e ((List.replicate m.aa.length (1099511627776:Int)).set p 0) m.aa.length) q≤nth dd p:=fun hf=>by
    have:=C4 hm inv m.aa.length p _ T0l (by omega) hf (Jq _ _ _)
    rw[T0n,if_pos rfl]at this
    omega
   have zz:p=q→nth dd p=0:=fun h=>by rw[h];exact inv.zero
   clear hD inv wl
   -- the loops
   have lp1:∀(ts:Ev.T) (z0 z1 z2 z11 z12 z13 z14 z15 z16:Ev.D),exS bM K.eW ⟨[z0,z1,z2,.bp 1 0,.bp 2 0,I p,I q,.t ts,I 0,.ref 3 0 0,I 0,z11,z12,z13,z14,z15,z16],[e4.obj,.box (ai m),.box (aH e),.arr 1 false 0 []]⟩=
    some (.exit 0,⟨[.und,.und,.und,.bp 1 0,.bp 2 0,I p,I q,.t ts,I 0,.ref 3 0 m.aa.length,I m.aa.length,.und,.und,.und,.und,.und,.und],[e4.obj,.box (ai m),.box (aH e),.arr 1 false 0 (ints (List.replicate m.aa.length 1099511627776))]⟩):=by
    intro ts z0 z1 z2 z11 z12 z13 z14 z15 z16
    clear mo eo po qo rc rl lo ro aw fin zz T0l T0n T0b
    obtain⟨aa,roads⟩:=m
    obtain⟨safe,bad,shut,lm⟩:=e
    simp only[ai,aH]at*
    refine eJ (fun j=>⟨[.und,.und,.und,.bp 1 0,.bp 2 0,I p,I q,.t ts,I 0,.ref 3 0 j,I j,.und,.und,.und,.und,.und,.und],[e4.obj,.box [.t (.sl (aa.map Place.e)),.t (.sl (roads.map Road.e))],.box [.t (tL safe),.t (tL bad),.t (tL shut),I lm],.arr 1 false 0 (ints (List.replicate j 1099511627776))]⟩) aa.length rfl ?_ ?_ (by simp)
    · intro j hj
      have s1:List.replicate (j+1) (1099511627776:Int)=List.replicate j 1099511627776++[1099511627776]:=List.replicate_succ'
      have s2:(List.replicate j (1099511627776:Int)).length=j:=List.length_replicate
      rw[s1]
      generalize List.replicate j (1099511627776:Int)=R at*
      subst s2
      simp only[ints]
      simp(disch:=omega)only[go_sem,K.dq,↓reduceIte,reduceAdd,reduceSub]
    · simp only[ints]
      simp(disch:=omega)only[go_sem,K.dq,↓reduceIte,reduceAdd,reduceSub]
   have lp3:∀(ts:Ev.T) (n:Nat) (T:List Int) (z0 z1 z2 z10 z13 z14 z15 z16:Ev.D),T.length=m.aa.length→Bo T→exS bM K.eX ⟨[z0,z1,z2,.bp 1 0,.bp 2 0,I p,I q,.t ts,I 0,.ref 3 0 m.aa.length,z10,I n,I 0,z13,z14,z15,z16],[e4.obj,.box (ai m),.box (aH e),.arr 1 false 0 (ints T)]⟩=
    some (.exit 4,rr3 e4 m e p q (.t ts) n (mJ m e T m.roads.length) m.roads.length):=by
    intro ts n T z0 z1 z2 z10 z13 z14 z15 z16 hT hb
    refine eJ (fun k=>rr3 e4 m e p q (.t ts) n (mJ m e T k) k) m.roads.length rfl ?_ ?_ (by simp)
    · intro k hk
      exact P6 e4 hm he p q ts n (by rw[fo];exact hT) (qQ hm e hT hb k (by omega)) hk
    · generalize mJ m e T m.roads.length=T2
      clear mo eo po qo rc rl lo ro aw fin zz T0l T0n T0b lp1
      obtain⟨aa,roads⟩:=m
      obtain⟨safe,bad,shut,lm⟩:=e
      simp only[rr3,ai,aH]at*
      simp(disch:=omega)only[go_sem,K.aP,↓reduceIte,reduceAdd,reduceSub]
   have lp2:∀(ts:Ev.T) (z0 z1 z2 z10 z12 z13 z14 z15 z16:Ev.D),exS bM K.eY ⟨[z0,z1,z2,.bp 1 0,.bp 2 0,I p,I q,.t ts,I 0,.ref 3 0 m.aa.length,z10,I 0,z12,z13,z14,z15,z16],[e4.obj,.box (ai m),.box (aH e),.arr 1 false 0 (ints ((List.replicate m.aa.length 1099511627776).set p 0))]⟩=
    some (.exit 2,⟨[.und,.und,.und,.bp 1 0,.bp 2 0,I p,I q,.t ts,I 0,.ref 3 0 m.aa.length,.und,I m.aa.length,.und,.und,.und,.und,.und],[e4.obj,.box (ai m),.box (aH e),.arr 1 false 0 (ints (lwN m e ((List.replicate m.aa.length 1099511627776).set p 0) m.aa.length))]⟩):=by
    intro ts z0 z1 z2 z10 z12 z13 z14 z15 z16
    generalize (List.replicate m.aa.length (1099511627776:Int)).set p 0=T at*
    refine eJ (fun n=>⟨[.und,.und,.und,.bp 1 0,.bp 2 0,I p,I q,.t ts,I 0,.ref 3 0 m.aa.length,.und,I n,.und,.und,.und,.und,.und],[e4.obj,.box (ai m),.box (aH e),.arr 1 false 0 (ints (lwN m e T n))]⟩) m.aa.length rfl ?_ ?_ (by simp)
    · intro n hn
      have lp:=lp3 ts n (lwN m e T n) .und .und .und .und .und .und .und .und (by rw[uw];exact T0l) (uz hm e n T T0l T0b)
      rw[← wy]at lp
      generalize lwN m e T n=T1 at*
      generalize lwN m e T (n+1)=T2 at*
      clear mo eo po qo rc rl lo ro aw fin zz T0l T0n T0b lp1 lp3
      obtain⟨aa,roads⟩:=m
      obtain⟨safe,bad,shut,lm⟩:=e
      simp only[rr3,ai,aH]at*
      simp(disch:=omega)only[go_sem,K.dt,↓reduceIte,lp,reduceAdd,reduceSub]
    · generalize lwN m e T m.aa.length=T1 at*
      clear mo eo po qo rc rl lo ro aw fin zz T0l T0n T0b lp1 lp3
      obtain⟨aa,roads⟩:=m
      obtain⟨safe,bad,shut,lm⟩:=e
      simp only[rr3,ai,aH]at*
      simp(disch:=omega)only[go_sem,K.dt,↓reduceIte,reduceAdd,reduceSub]
   have Tl:=uw m e m.aa.length ((List.replicate m.aa.length (1099511627776:Int)).set p 0)
   have Tb:=uz hm e m.aa.length _ T0l T0b
   have s0:(List.replicate m.aa.length (1099511627776:Int)).length=m.aa.length:=List.length_replicate
   rw[T0l]at Tl
   generalize lwN m e ((List.replicate m.aa.length (1099511627776:Int)).set p 0) m.aa.length=TT at*
   generalize List.replicate m.aa.length (1099511627776:Int)=T0 at*
   have nq:=gT (l:=TT) (j:=q) (by omega)
   have Tq:=Tb q
   clear T0n T0b Tb lp3
   generalize wq m p=lag at*
   by_cases cc:nth dd p+lag>e.iZ
   · rw[if_pos cc]at rc
     have sc:([Ev.D.t (tL []),I 0].all dR)=false:=rfl
     have pq:p=q→¬lag≤e.iZ:=fun h=>by have:=zz h;omega
     clear fin zz dlo cc
     obtain⟨aa,roads⟩:=m
     obtain⟨safe,bad,shut,lm⟩:=e
     simp only[ai,aH]at*
     by_cases epq:p=q
     · have nl:=pq epq
       subst epq
       simp(disch:=omega)only[go_sem,K.aE,↓reduceIte,lo,ro,mo,eo,po,qo,rc,lp1,lp2,s0,Tl,nq,rl,aw,sc,nl,reduceAdd,reduceSub]
     · simp(disch:=omega)only[go_sem,K.aE,↓reduceIte,lo,ro,mo,eo,po,qo,rc,lp1,lp2,s0,Tl,nq,rl,aw,sc,epq,reduceAdd,reduceSub]
   · rw[if_neg cc]at rc
     have tq:=fin (by omega)
     have tl:nth TT q+lag≤e.iZ:=by omega
     have sc:([Ev.D.t (tL [0]),I 0].all dR)=false:=rfl
     have pq:p=q→lag≤e.iZ:=fun h=>by have:=zz h;omega
     clear fin zz dlo cc
     obtain⟨aa,roads⟩:=m
     obtain⟨safe,bad,shut,lm⟩:=e
     simp only[ai,aH]at*
     by_cases epq:p=q
     · have nl:=pq epq
       subst epq
       simp(disch:=omega)only[go_sem,K.aE,↓reduceIte,lo,ro,mo,eo,po,qo,rc,lp1,lp2,s0,Tl,nq,rl,aw,sc,nl,tl,reduceAdd,reduceSub]
     · simp(disch:=omega)only[go_sem,K.aE,↓reduceIte,lo,ro,mo,eo,po,qo,rc,lp1,lp2,s0,Tl,nq,rl,aw,sc,epq,tl,reduceAdd,reduceSub]
 · simp only[c,decide_false]at lo
   simp(disch:=omega)only[go_sem,K.aE,↓reduceIte,lo,aw,reduceAdd,reduceSub]
end Go.Ev
