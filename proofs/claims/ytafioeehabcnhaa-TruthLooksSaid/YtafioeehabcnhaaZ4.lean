/- Parts of the proof: see the text that holds the theorem. -/
import Derived.Test.YtafioeehabcnhaaZ3
set_option linter.all false
set_option maxRecDepth 100000
namespace Go.Ev.K
open Go.Ev
def dQ:C:=(.seq (.ite [m v11,m v10,u (.bin .lss l1 l0)] [] 0 .skip (.exit 2)) (.seq (.blk 3 (.seq (.reg [w 12 (.mv (.i 0))] []) (.seq (.ite [f 0 v4,g l0,f 3 v5,g l0,a 3 l0 (.i 0),f 0 l0,g l0,u (.ca N.dn 0 [] [.l 5,.l 0])] [] 0 (.reg [w 12 (.mv (.i 1))] []) .skip) (.seq (.reg [m v8,m v12,u (.bs [.l 0] 1),u (.app l2 l0 true 1),w 8 (.mv l0)] []) (.seq (.reg [h 9 v5,u (.ca N.cQ 0 [] [.l 0,.i 1]),m l0,u (.ex l0 0),u (.ex l1 1),u (.st v5 l1 9 []),w 6 (.mv l1)] []) (.ite [m v6,u (.bin .neq l0 (.i 0)),m l0,y 0 false (.fa v5 3),y 1 false (.ld l0 1 false),y 2 false (.ln l0),y 3 false (.bin .neq l0 (.i 1)),u (.pk l4 (.b true) l0)] [] 0 (.seq (.reg [w 1 (.mv (.b false))] []) .ret) .skip)))))) (.reg [m v11,u (.bin .add l0 (.i 1)),w 11 (.mv l0)] [])))
def fC:C:= .loop true [0,1,6,12,13,14,15,16,17,18,19,20,21,22] K.dQ
def aI:C:=(.seq (.ite [m v9,u (.bin .lss l0 (.i 60))] [] 0 .skip (.exit 0)) (.seq (.blk 1 (.seq (.reg [m v2,u (.bs [.i 1,.i 5,.i 10,.i 3] 1),u (.ca N.ba 0 [] [.l 1,.l 0]),w 10 (.mv l0)] []) (.seq (.ite [m v2,u (.ca N.bI 0 [] [.l 0,.i 12])] [] 0 (.reg [w 10 (.mv (.i 40))] []) .skip) (.seq (.ite [m v2,u (.ca N.bI 0 [] [.l 0,.i 4])] [] 0 (.reg [h 9 v5,m v2,f 1 v3,g l0,u (.ln l0),u (.ca N.aG 0 [] [.l 3,.l 0]),m v2,u (.bs [.i 0,.i 9] 1),u (.ca N.ba 0 [] [.l 1,.l 0]),u (.ca N.cj 0 [] [.l 8,.i 0,.l 3,.l 0]),m l0,u (.ex l0 0),u (.ex l1 1),u (.st v5 l1 9 [])] [(0,6),(0,9),(7,0)]) .skip) (.seq (.ite [f 3 v5,g l0,u (.ln l0),u (.bin .neq l0 (.i 1))] [] 0 (.seq (.reg [w 1 (.mv (.b false))] []) .ret) .skip) (.seq (.seq (.reg [w 11 (.mv (.i 0))] []) (.blk 2 K.fC)) (.seq (.reg [w 13 (.al [.nil,.nil,.t (.int .i64 (0)),.nil,.nil,.nil,.nil,.nil,.nil] []),w 14 (.al [.t (.int .i64 (0)),.t (.int .i64 (0)),.t (.int .i64 (0)),.nil] []),h 9 v5,m v2,u (.ca N.aG 0 [] [.l 0,.i 2]),m v2,f 3 v4,g l0,u (.bin .mul (.i 2) l0),u (.bin .add l0 (.i 1)),u (.ca N.aG 0 [] [.l 4,.l 0]),f 3 v4,g l0,u (.bin .sub l2 l0),u (.ca N.ae 0 [] [.l 11,.i 0,.l 9,.l 0]),m l0,u (.ex l0 0),u (.ex l1 1),u (.ex l2 2),u (.st (.l 18) l2 9 []),u (.st (.l 18) l2 4 []),w 15 (.mv l2)] [(0,5),(0,11),(0,15),(1,5),(1,11),(1,15),(2,5),(2,11),(7,2),(12,2),(12,5)]) (.seq (.ite [m v15,u (.bin .eql l0 (.i 43))] [] 0 (.reg [h 9 v5,u (.ca N.ae 0 [] [.l 0,.i 0,.i 0,.i 0]),m l0,u (.ex l0 0),u (.ex l1 1),u (.ex l2 2),u (.st v13 l2 9 []),u (.st v14 l2 4 []),w 15 (.mv l2)] []) .skip) (.seq (.ite [m v15,u (.bin .neq l0 (.i 0)),m l0,y 0 false (.fa v13 3),y 1 false (.ld l0 1 false),y 2 false (.ln l0),y 3 false (.bin .neq l0 (.i 1)),u (.pk l4 (.b true) l0)] [] 0 (.seq (.reg [w 1 (.mv (.b false))] []) .ret) .skip) (.seq (.reg [h 4 v4,u (.bs [.l 0] 4),h 4 v14,u (.ca N.ed 0 [] [.l 1,.l 0]),m l0,u (.ex l0 0),u (.ex l1 1),w 16 (.mv l1),w 17 (.mv l1)] []) (.seq (.ite [m v17,u (.bin .neq l0 (.i 0)),m l0,y 0 false (.mv v16),y 1 false (.ln l0),y 2 false (.bin .gtr l0 (.i 1)),u (.pk l3 (.b true) l0),m l0,y 0 false (.mv v16),y 1 false (.ln l0),y 2 false (.bin .eql l0 (.i 1)),y 3 false (.mv l0),y 0 true (.mv v16),y 1 true (.ia l0 (.i 0) 4),y 2 true (.fa l0 2),y 3 true (.ld l0 1 false),y 4 true (.fa v5 2),y 5 true (.ld l0 1 false),y 6 true (.bin .gtr l2 l0),y 7 true (.mv l0),y 0 false (.mv v16),y 1 false (.ia l0 (.i 0) 4),y 2 false (.fa l0 3),y 3 false (.ld l0 1 false),y 4 false (.fa v5 2),y 5 false (.ld l0 1 false),y 6 false (.bin .lss l2 l0),y 15 true (.pk l7 (.b true) l0),y 16 true (.mv l0),y 0 false (.fa v4 0),y 1 false (.ld l0 1 false),y 2 false (.fa v5 3),y 3 false (.ld l0 1 false),y 4 false (.ia l0 (.i 0) 3),y 5 false (.fa l0 0),y 6 false (.ld l0 1 false),y 7 false (.ca N.dn 0 [] [.l 5,.l 0]),y 8 false (.un .not l0),y 26 true (.pk l9 (.b true) l0),y 31 false (.pk (.l 27) l0 (.b false)),u (.pk (.l 32) (.b true) l0)] [] 0 (.seq (.reg [w 1 (.mv (.b false))] []) .ret) .skip) (.reg [h 9 v13,m v7,h 4 v14,u (.bs [.l 0] 4),u (.app l2 l0 true 4),u (.st v5 l4 9 []),w 7 (.mv l1)] [(0,4),(0,5)])))))))))))) (.reg [m v9,u (.bin .add l0 (.i 1)),w 9 (.mv l0)] [])))
def ic:C:= .loop true [0,1,6,10,11,12,13,14,15,16,17,18,19,20,21,22] K.aI
def cB:C:=(.seq (.ite [m v22,m v18,m v20,a 4 l1 l0,f 3 l0,g l0,u (.bin .lss l5 l0),m l0,y 0 true (.mv v22),y 1 true (.bin .sub l0 (.i 50)),y 2 true (.mv v8),y 3 true (.ln l0),y 4 true (.bin .lss l2 l0),u (.pk l5 l0 (.b false))] [] 0 .skip (.exit 6)) (.seq (.blk 7 (.seq (.ite [m v22,u (.bin .geq l0 (.i 50)),m l0,y 0 true (.mv v8),y 1 true (.mv v22),y 2 true (.bin .sub l0 (.i 50)),y 3 true (.ia l2 l0 1),y 4 true (.ld l0 1 false),y 5 true (.bin .eql l0 (.i 1)),u (.pk l6 l0 (.b false))] [] 0 (.reg [m v21,u (.bin .add l0 (.i 1)),w 21 (.mv l0)] []) (.reg [w 21 (.mv (.i 0))] [])) (.ite [m v21,h 4 v4,u (.ca N.dL 0 [] [.l 0]),u (.bin .gtr l2 l0)] [] 0 (.seq (.reg [w 1 (.mv (.b false))] []) .ret) .skip))) (.reg [m v22,u (.bin .add l0 (.i 1)),w 22 (.mv l0)] [])))
def ie:C:= .loop true [0,1,2,3,5,6,7,9,10,11,12,13,14,15,16,17] K.cB
def eW:C:=(.seq (.ite [m v20,m v18,u (.ln l0),u (.bin .lss l2 l0)] [] 0 .skip (.exit 4)) (.seq (.blk 5 (.seq (.reg [w 21 (.mv (.i 0))] []) (.seq (.reg [m v18,m v20,a 4 l1 l0,f 2 l0,g l0,w 22 (.mv l0)] []) (.blk 6 K.ie)))) (.reg [m v20,u (.bin .add l0 (.i 1)),w 20 (.mv l0)] [])))
def ig:C:= .loop true [0,1,2,3,5,6,7,9,10,11,12,13,14,15,16,17,21,22] K.eW
def bG:Fn:={ nargs:=1,vars:=[0,2,3,4,5,6,7,8,9,10,11,12,13,14,15,16,17,18,19,20,21,22,23],body:=(.seq (.reg [w 1 (.mv (.b false))] []) (.seq (.ite [m v0,u (.ca N.ez 0 [] [.l 0]),u (.un .not l0)] [] 0 (.seq (.reg [u (.ca N.dK 0 [] []),w 1 (.mv l0)] []) .ret) .skip) (.seq (.reg [m v0,u (.ca N.fh 0 [] [.l 0]),w 2 (.mv l0)] []) (.seq (.reg [m v2,u (.ca N.bQ 0 [] [.l 0]),w 3 (.al [.nil,.nil] []),u (.st l0 l1 2 [])] []) (.seq (.reg [m v2,f 0 v3,g l0,u (.ln l0),u (.ca N.bR 0 [] [.l 3,.l 0]),m v2,u (.bs [.i 9,.i 29] 1),u (.ca N.ba 0 [] [.l 1,.l 0]),u (.bin .add (.i 1) l0),m v2,u (.ca N.aG 0 [] [.l 0,.i 3]),m v2,u (.bs [.i 0,.i 2] 1),u (.ca N.ba 0 [] [.l 1,.l 0]),u (.bd [.nil,.t (.int .i64 (0)),.t (.int .i64 (0)),.t (.int .i64 (0))] [(0,1,.l 9),(1,1,.l 5),(2,1,.l 3),(3,1,.l 0)]),w 4 (.al [.nil,.t (.int .i64 (0)),.t (.int .i64 (0)),.t (.int .i64 (0))] []),u (.st l0 l1 4 [])] []) (.seq (.ite [f 0 v4,g l0,u (.ln l0),u (.bin .eql l0 (.i 0))] [] 0 (.reg [u (.bs [.i 0] 1),f 0 v4,u (.st l0 l1 1 [])] []) .skip) (.seq (.reg [w 5 (.al [.nil,.nil,.t (.int .i64 (0)),.nil,.nil,.nil,.nil,.nil,.nil] []),h 2 v3,h 4 v4,u (.bs [.l 0] 4),m v2,f 0 v3,g l0,u (.ln l0),u (.ca N.aG 0 [] [.l 3,.l 0]),u (.bs [.l 0] 1),u (.bs [.i 4] 1),u (.ca N.bN 0 [] [.l 9,.l 7,.l 1,.l 0,.i 50]),m l0,u (.ex l0 0),u (.ex l1 1),u (.st (.l 14) l1 9 []),w 6 (.mv l1)] [(0,9),(0,12),(1,9),(2,9),(3,9),(9,9),(10,1)]) (.seq (.ite [m v6,u (.bin .neq l0 (.i 0)),m l0,y 0 false (.fa v5 3),y 1 false (.ld l0 1 false),y 2 false (.ln l0),y 3 false (.bin .neq l0 (.i 1)),u (.pk l4 (.b true) l0)] [] 0 (.seq (.reg [w 1 (.mv (.b false))] []) .ret) .skip) (.seq (.reg [w 7 (.nw 4)] []) (.seq (.reg [w 8 (.nw 1)] []) (.seq (.seq (.reg [w 9 (.mv (.i 0))] []) (.blk 0 K.ic)) (.seq (.reg [h 4 v4,u (.bs [.l 0] 4),m v7,u (.ca N.cr 0 [] [.l 1,.i 0,.i 4,.l 0]),m l0,u (.ex l0 0),u (.ex l1 1),w 18 (.mv l1),w 19 (.mv l1)] []) (.seq (.seq (.reg [w 20 (.mv (.i 0))] []) (.blk 4 K.ig)) (.seq (.reg [u (.ca N.dK 0 [] []),m l0,y 0 true (.mv v19),y 1 true (.bin .eql l0 (.i 0)),u (.pk l2 l0 (.b false)),w 1 (.mv l0)] []) .ret)))))))))))))),res:=[(1,none)]}
def dK:Fn:={ nargs:=0,vars:=[0,1,2,3,4,6,7,8,10,11],body:=(.seq (.reg [w 0 (.mv (.b false))] []) (.seq (.reg [u (.ca N.fH 0 [] []),u (.bs [.i 1] 1),u (.bd [.nil,.t (.int .i64 (0)),.t (.int .i64 (0)),.t (.int .i64 (0))] [(0,1,.l 0),(1,1,.i 10)]),u (.bs [.l 0] 4),u (.bs [.i 0] 1),u (.bs [.i 9] 1),u (.ca N.bN 0 [] [.l 5,.l 2,.l 1,.l 0,.i 0]),m l0,u (.ex l0 0),u (.ex l1 1),w 1 (.al [.nil,.nil,.t (.int .i64 (0)),.nil,.nil,.nil,.nil,.nil,.nil] []),u (.st l0 l2 9 []),w 2 (.mv l2)] []) (.seq (.reg [h 9 v1,u (.ca N.cj 0 [] [.l 0,.i 0,.i 0,.i 0]),m l0,u (.ex l0 0),u (.ex l1 1),u (.st v1 l1 9 []),w 3 (.mv l1)] []) (.seq (.reg [h 9 v1,u (.ca N.cQ 0 [] [.l 0,.i 6]),m l0,u (.ex l0 0),u (.ex l1 1),u (.st v1 l1 9 []),w 4 (.mv l1)] []) (.seq (.reg [h 9 v1,u (.ca N.ae 0 [] [.l 0,.i 0,.i 0,.i 0]),m l0,u (.ex l0 0),u (.ex l1 1),u (.ex l2 2),u (.al [.nil,.nil,.t (.int .i64 (0)),.nil,.nil,.nil,.nil,.nil,.nil] []),w 5 (.al [.t (.int .i64 (0)),.t (.int .i64 (0)),.t (.int .i64 (0)),.nil] []),u (.st l1 l4 9 []),u (.st l1 l4 4 []),w 6 (.mv l4)] []) (.seq (.reg [h 9 v1,u (.ca N.cQ 0 [] [.l 0,.i 4]),m l0,u (.ex l0 0),u (.ex l1 1),u (.st v1 l1 9 []),w 7 (.mv l1)] []) (.seq (.reg [h 9 v1,u (.ca N.ae 0 [] [.l 0,.i 0,.i 0,.i 0]),m l0,u (.ex l0 0),u (.ex l1 1),u (.ex l2 2),u (.al [.nil,.nil,.t (.int .i64 (0)),.nil,.nil,.nil,.nil,.nil,.nil] []),w 8 (.al [.t (.int .i64 (0)),.t (.int .i64 (0)),.t (.int .i64 (0)),.nil] []),u (.st l1 l4 9 []),u (.st l1 l4 4 []),w 9 (.mv l4)] []) (.seq (.reg [m v2,u (.bin .eql l0 (.i 0)),m l0,y 0 true (.mv v3),y 1 true (.bin .eql l0 (.i 0)),u (.pk l2 l0 (.b false)),m l0,y 0 true (.mv v4),y 1 true (.bin .eql l0 (.i 0)),u (.pk l2 l0 (.b false)),m l0,y 0 true (.mv v6),y 1 true (.bin .eql l0 (.i 0)),u (.pk l2 l0 (.b false)),m l0,y 0 true (.mv v7),y 1 true (.bin .eql l0 (.i 0)),u (.pk l2 l0 (.b false)),m l0,y 0 true (.mv v9),y 1 true (.bin .eql l0 (.i 0)),u (.pk l2 l0 (.b false)),m l0,y 0 true (.fa v1 3),y 1 true (.ld l0 1 false),y 2 true (.ln l0),y 3 true (.bin .eql l0 (.i 1)),u (.pk l4 l0 (.b false)),m l0,y 0 true (.fa v1 3),y 1 true (.ld l0 1 false),y 2 true (.ia l0 (.i 0) 3),y 3 true (.fa l0 0),y 4 true (.ld l0 1 false),y 5 true (.bin .eql l0 (.i 1)),u (.pk l6 l0 (.b false)),m l0,y 0 true (.fa v1 3),y 1 true (.ld l0 1 false),y 2 true (.ia l0 (.i 0) 3),y 3 true (.fa l0 1),y 4 true (.ld l0 1 false),y 5 true (.bin .eql l0 (.i (-1))),u (.pk l6 l0 (.b false)),m l0,y 0 true (.fa v5 3),y 1 true (.ld l0 1 false),y 2 true (.ln l0),y 3 true (.bin .eql l0 (.i 0)),u (.pk l4 l0 (.b false)),m l0,y 0 true (.fa v8 3),y 1 true (.ld l0 1 false),y 2 true (.ln l0),y 3 true (.bin .eql l0 (.i 1)),u (.pk l4 l0 (.b false)),m l0,y 0 true (.fa v8 3),y 1 true (.ld l0 1 false),y 2 true (.ia l0 (.i 0) 1),y 3 true (.ld l0 1 false),y 4 true (.bin .eql l0 (.i 9)),u (.pk l5 l0 (.b false)),m l0,y 0 true (.fa v8 2),y 1 true (.ld l0 1 false),y 2 true (.bin .eql l0 (.i 10)),u (.pk l3 l0 (.b false)),w 0 (.mv l0)] []) .ret)))))))),res:=[(0,none)]}
def ij:C:=(.its [u (.bin .lss v13 v12)] [] 0 .skip (.exit 1) (.seq (.blk 2 (.seq (.reg [a 1 v11 v13,g l0,w 10 (.mv l0)] []) (.reg [f 3 v9,g l0,m v10,u (.bd [.t (.int .i64 (0)),.t (.int .i64 (0)),.t (.int .i64 (0))] [(0,1,.l 0),(1,1,.i (-1))]),u (.bs [.l 0] 3),u (.app l3 l0 true 3),f 3 v9,u (.st l0 l1 1 [])] []))) (.reg [u (.bin .add v13 (.i 1)),w 13 (.mv l0)] [])))
def kZ:C:= .loop true [0,2,3,4,5,7,10,14,15] K.ij
def ik:C:=(.its [u (.bin .lss v15 v14)] [] 0 .skip (.exit 3) (.seq (.blk 4 (.reg [f 6 v9,g l0,u (.bs [.i (-1)] 1),u (.app l1 l0 true 1),f 7 v9,g l0,u (.bs [.i (-1)] 1),u (.app l1 l0 true 1),f 8 v9,g l0,m v8,u (.mkt l0 (.int .i64 (0)) 1),u (.bs [.l 0] 1),u (.app l3 l0 true 1),f 6 v9,u (.st l0 l11 1 []),f 7 v9,u (.st l0 l9 1 []),f 8 v9,u (.st l0 l5 1 [])] [(2,2),(5,0),(6,0),(9,0),(9,4),(11,0),(11,4),(12,0),(12,4)])) (.reg [u (.bin .add v15 (.i 1)),w 15 (.mv l0)] [])))
def lf:C:= .loop true [0,1,2,3,4,5,7,10,11,12,13] K.ik
def bN:Fn:={ nargs:=5,vars:=[0,1,2,3,4,5,10,11,12,13,15,55,56,57,70,71],body:=(.seq (.reg [w 5 (.bx v0 2),w 6 (.al [.nil,.nil,.t (.int .i64 (0)),.nil,.nil,.nil,.nil,.nil,.nil] []),w 7 (.mv (.i 0))] []) (.seq (.reg [m v2,u (.ln l0),w 8 (.mv l0)] []) (.seq (.blk 0 (.ite [h 2 v5,m v1,u (.ca N.bH 0 [] [.l 1,.l 0]),u (.un .not l0),m l0,y 0 false (.mv v3),y 1 false (.ln l0),y 2 false (.mv v8),y 3 false (.bin .neq l1 l0),u (.pk l4 (.b true) l0),m l0,y 0 false (.mv v8),y 1 false (.ca N.bJ 0 [] [.l 0,.i 1,.i 12]),y 2 false (.un .not l0),u (.pk l3 (.b true) l0),m l0] [] 0 (.seq (.reg [u (.bd [.nil,.nil,.t (.int .i64 (0)),.nil,.nil,.nil,.nil,.nil,.nil] []),u (.st v6 l0 9 []),w 7 (.mv (.i 6))] []) .ret) (.ite [m v2,u (.mf N.b7 [.v 5]),u (.ca N.aF 0 [] [.l 1,.l 0]),m l0] [] 0 (.seq (.reg [u (.bd [.nil,.nil,.t (.int .i64 (0)),.nil,.nil,.nil,.nil,.nil,.nil] []),u (.st v6 l0 9 []),w 7 (.mv (.i 3))] []) .ret) (.ite [m v3,u (.ca N.cN 0 [] [.l 0]),u (.un .not l0),m l0] [] 0 (.seq (.reg [u (.bd [.nil,.nil,.t (.int .i64 (0)),.nil,.nil,.nil,.nil,.nil,.nil] []),u (.st v6 l0 9 []),w 7 (.mv (.i 41))] []) .ret) (.ite [m v4,u (.ca N.bJ 0 [] [.l 0,.i 0,.i 2147483648]),u (.un .not l0),m l0] [] 0 (.seq (.reg [u (.bd [.nil,.nil,.t (.int .i64 (0)),.nil,.nil,.nil,.nil,.nil,.nil] []),u (.st v6 l0 9 []),w 7 (.mv (.i 8))] []) .ret) .skip))))) (.seq (.reg [h 2 v5,m v4,m v3,m v1,u (.bd [.nil,.nil,.t (.int .i64 (0)),.nil,.nil,.nil,.nil,.nil,.nil] [(0,2,.l 3),(2,1,.l 2),(4,1,.l 1),(5,1,.l 0)]),w 9 (.al [.nil,.nil,.t (.int .i64 (0)),.nil,.nil,.nil,.nil,.nil,.nil] [(3,3),(6,1),(7,1),(8,1)]),u (.st l0 l1 9 [(3,3),(6,1),(7,1),(8,1)])] []) (.seq (.seq (.reg [w 11 (.mv v2),w 12 (.ln l0),w 13 (.mv (.i 0))] []) (.blk 1 K.kZ)) (.seq (.seq (.reg [m v1,w 14 (.ln l0),w 15 (.mv (.i 0))] []) (.blk 3 K.lf)) (.seq (.reg [h 9 v9,u (.ca N.df 0 [] [.l 0]),u (.st v6 l0 9 []),w 7 (.mv (.i 0))] []) .ret))))))),res:=[(6,some (9,true)),(7,none)]}
def cj:Fn:={ nargs:=4,vars:=[0,1,2,3,4,8,9,10,11,12,13],body:=(.seq (.reg [w 4 (.bx v0 9),w 5 (.al [.nil,.nil,.t (.int .i64 (0)),.nil,.nil,.nil,.nil,.nil,.nil] []),w 6 (.mv (.i 0))] []) (.seq (.seq (.reg [h 9 v4,m v1,u (.bs [.l 0] 1),u (.ca N.bX 0 [] [.l 2,.l 0]),w 7 (.mv l0)] []) (.ite [m v7,u (.bin .neq l0 (.i 0))] [] 0 (.seq (.reg [h 9 v4,m v7,u (.st v5 l1 9 []),w 6 (.mv l1)] []) .ret) .skip)) (.seq (.reg [f 3 v4,g l0,m v1,a 3 l1 l0,h 3 l0,w 8 (.al [.t (.int .i64 (0)),.t (.int .i64 (0)),.t (.int .i64 (0))] []),u (.st l0 l1 3 [])] []) (.seq (.reg [f 0 v4,h 2 l0,m v2,f 0 v8,g l0,u (.ca N.bO 0 [] [.l 3,.l 2,.l 0]),w 9 (.mv l0)] []) (.seq (.blk 0 (.ite [f 1 v8,g l0,u (.bin .geq l0 (.i 0)),m l0] [] 0 (.seq (.reg [h 9 v4,u (.st v5 l0 9 []),w 6 (.mv (.i 10))] []) .ret) (.ite [m v9,u (.bin .lss l0 (.i 0)),m l0] [] 0 (.seq (.reg [h 9 v4,u (.st v5 l0 9 []),w 6 (.mv (.i 4))] []) .ret) (.ite [m v3,u (.ca N.bJ 0 [] [.l 0,.i 0,.i 3600]),u (.un .not l0),m l0] [] 0 (.seq (.reg [h 9 v4,u (.st v5 l0 9 []),w 6 (.mv (.i 1))] []) .ret) .skip)))) (.seq (.reg [h 9 v4,u (.ca N.bP 1 [] [.l 0]),w 10 (.al [.nil,.nil,.t (.int .i64 (0)),.nil,.nil,.nil,.nil,.nil,.nil] []),u (.st l0 l1 9 [])] []) (.seq (.reg [f 3 v10,g l0,m v1,f 3 v10,g l0,m v1,m v2,m v9,m v3,u (.bin .add l1 l0),a 3 l8 l7,f 1 l0,u (.st l0 l5 1 []),a 3 l8 l7,f 2 l0,u (.st l0 l5 1 [])] [(4,13)]) (.seq (.reg [h 9 v10,u (.st v5 l0 9 []),w 6 (.mv (.i 0))] []) .ret)))))))),res:=[(5,some (9,true)),(6,none)]}
def fm:C:=(.its [u (.bin .lss v10 v9)] [] 0 .skip (.exit 1) (.seq (.blk 2 (.seq (.reg [m v10,a 3 v8 v10,h 3 l0,w 7 (.al [.t (.int .i64 (0)),.t (.int .i64 (0)),.t (.int .i64 (0))] []),w 6 (.mv l3),u (.st l1 l2 3 [])] []) (.seq (.ite [f 1 v7,g l0,u (.bin .lss l0 (.i 0))] [] 0 (.exit 2) .skip) (.seq (.seq (.reg [f 2 v7,g l0,m v1,u (.bin .sub l1 l0),f 2 v7,u (.st l0 l1 1 [])] []) (.ite [f 2 v7,g l0,u (.bin .leq l0 (.i 0))] [] 0 (.reg [f 0 v2,h 2 l0,f 1 v7,g l0,f 0 v7,g l0,u (.ca N.dW 0 [] [.l 4,.l 2,.l 0]),u (.bd [.t (.int .i64 (0)),.t (.int .i64 (0)),.t (.int .i64 (0))] [(0,1,.l 0),(1,1,.i (-1))]),u (.st v7 l0 3 [])] []) .skip)) (.reg [f 3 v5,g l0,m v6,h 3 v7,a 3 l2 l1,u (.st l0 l1 3 [])] []))))) (.reg [u (.bin .add v10 (.i 1)),w 10 (.mv l0)] [])))
def mN:C:= .loop true [0,4,6,7] K.fm
def cQ:Fn:={ nargs:=2,vars:=[0,1,2,4,5,6,7,8,34,35,36],body:=(.seq (.reg [w 2 (.bx v0 9),w 3 (.al [.nil,.nil,.t (.int .i64 (0)),.nil,.nil,.nil,.nil,.nil,.nil] []),w 4 (.mv (.i 0))] []) (.seq (.blk 0 (.ite [h 9 v2,u (.ca N.cY 0 [] [.l 0]),u (.un .not l0),m l0] [] 0 (.seq (.reg [h 9 v2,u (.st v3 l0 9 []),w 4 (.mv (.i 6))] []) .ret) (.ite [m v1,u (.ca N.bJ 0 [] [.l 0,.i 0,.i 3600]),u (.un .not l0),m l0] [] 0 (.seq (.reg [h 9 v2,u (.st v3 l0 9 []),w 4 (.mv (.i 1))] []) .ret) (.ite [f 2 v2,g l0,m v1,u (.bin .add l1 l0),u (.bin .gtr l0 (.i 2147483648)),m l0] [] 0 (.seq (.reg [h 9 v2,u (.st v3 l0 9 []),w 4 (.mv (.i 8))] []) .ret) .skip)))) (.seq (.reg [h 9 v2,u (.ca N.bP 1 [] [.l 0]),w 5 (.al [.nil,.nil,.t (.int .i64 (0)),.nil,.nil,.nil,.nil,.nil,.nil] []),u (.st l0 l1 9 [])] []) (.seq (.reg [f 2 v5,g l0,m v1,u (.bin .add l1 l0),f 2 v5,u (.st l0 l1 1 [])] []) (.seq (.seq (.reg [f 3 v5,w 8 (.ld l0 1 false),w 9 (.ln l0),w 10 (.mv (.i 0))] []) (.blk 1 K.mN)) (.seq (.reg [h 9 v5,u (.st v3 l0 9 []),w 4 (.mv (.i 0))] []) .ret)))))),res:=[(3,some (9,true)),(4,none)]}
def aa:C:=(.its [u (.bin .lss v20 v19)] [] 0 .skip (.exit 1) (.seq (.blk 2 (.seq (.reg [m v20,a 3 v18 v20,h 3 l0,w 14 (.al [.t (.int .i64 (0)),.t (.int .i64 (0)),.t (.int .i64 (0))] []),w 13 (.mv l3),u (.st l1 l2 3 [])] []) (.seq (.reg [f 0 v8,g l0,f 0 v14,g l0,u (.ca N.aQ 0 [] [.l 2,.l 0]),m v2,m v13,u (.bin .shr l1 l0),u (.bin .and l0 (.i 1)),u (.bin .eql l0 (.i 1)),w 15 (.mv l5),w 16 (.mv l1)] []) (.seq (.reg [f 8 v9,g l0,m v1,a 1 l1 l0,g l0,m v13,a 1 l1 l0,w 17 (.mv l0)] []) (.blk 3 (.ite [m v15,m l0,y 0 true (.mv v16),u (.pk l1 l0 (.b false)),m l0] [] 0 (.seq (.reg [m v17,u (.nc l0),g l0,u (.bin .add l0 (.i 1)),u (.nc l3),u (.st l0 l1 1 [])] []) (.ite [m v17,u (.nc l0),g l0,f 2 v8,g l0,u (.bin .gtr l2 l0)] [] 0 (.seq (.reg [h 9 v4,u (.bd [.t (.int .i64 (0)),.t (.int .i64 (0)),.t (.int .i64 (0)),.nil] []),u (.st v5 l1 9 []),u (.st v6 l1 4 []),w 7 (.mv (.i 43))] []) .ret) .skip)) (.seq (.reg [m v17,u (.nc l0),u (.st l0 (.i 0) 1 [])] []) (.ite [m v15] [] 0 (.reg [f 3 v12,g l0,f 4 v4,g l0,m v13,a 1 l1 l0,g l0,u (.bs [.l 0] 1),u (.app l6 l0 true 1),f 3 v12,u (.st l0 l1 1 [])] [(1,8)]) .skip)))))))) (.reg [u (.bin .add v20 (.i 1)),w 20 (.mv l0)] [])))
def ee:C:= .loop false [0,3,7,10,11,13,14,15,16,17] K.aa
def ae:Fn:={ nargs:=4,vars:=[0,1,2,3,4,8,9,10,11,12,13,14,15,16,17,18,19,20,108,109,110],body:=(.seq (.reg [w 4 (.bx v0 9),w 5 (.al [.nil,.nil,.t (.int .i64 (0)),.nil,.nil,.nil,.nil,.nil,.nil] []),w 6 (.al [.t (.int .i64 (0)),.t (.int .i64 (0)),.t (.int .i64 (0)),.nil] []),w 7 (.mv (.i 0))] []) (.seq (.blk 0 (.ite [h 9 v4,u (.ca N.cY 0 [] [.l 0]),u (.un .not l0),m l0] [] 0 (.seq (.reg [h 9 v4,u (.bd [.t (.int .i64 (0)),.t (.int .i64 (0)),.t (.int .i64 (0)),.nil] []),u (.st v5 l1 9 []),u (.st v6 l1 4 []),w 7 (.mv (.i 6))] []) .ret) (.ite [m v1,f 5 v4,g l0,u (.ln l0),u (.bin .sub l0 (.i 1)),u (.ca N.bJ 0 [] [.l 4,.i 0,.l 0]),u (.un .not l0),m l0] [] 0 (.seq (.reg [h 9 v4,u (.bd [.t (.int .i64 (0)),.t (.int .i64 (0)),.t (.int .i64 (0)),.nil] []),u (.st v5 l1 9 []),u (.st v6 l1 4 []),w 7 (.mv (.i 40))] []) .ret) .skip))) (.seq (.reg [f 5 v4,g l0,m v1,a 4 l1 l0,h 4 l0,w 8 (.al [.nil,.t (.int .i64 (0)),.t (.int .i64 (0)),.t (.int .i64 (0))] []),u (.st l0 l1 4 [])] []) (.seq (.ite [m v3,f 3 v8,g l0,u (.un .neg l0),f 3 v8,g l0,u (.ca N.bJ 0 [] [.l 5,.l 2,.l 0]),u (.un .not l0),m l0,y 0 false (.fa v4 2),y 1 false (.ld l0 1 false),y 2 false (.mv v3),y 3 false (.bin .add l1 l0),y 4 false (.ca N.bJ 0 [] [.l 0,.i 0,.i 2147483648]),y 5 false (.un .not l0),u (.pk l6 (.b true) l0)] [] 0 (.seq (.reg [h 9 v4,u (.bd [.t (.int .i64 (0)),.t (.int .i64 (0)),.t (.int .i64 (0)),.nil] []),u (.st v5 l1 9 []),u (.st v6 l1 4 []),w 7 (.mv (.i 1))] []) .ret) .skip) (.seq (.reg [h 9 v4,u (.ca N.aP 2 [] [.l 0]),w 9 (.al [.nil,.nil,.t (.int .i64 (0)),.nil,.nil,.nil,.nil,.nil,.nil] []),u (.st l0 l1 9 [])] []) (.seq (.reg [w 10 (.mv (.i 1))] []) (.seq (.ite [f 7 v4,g l0,m v1,a 1 l1 l0,g l0,u (.bin .geq l0 (.i 0)),m l0,y 0 true (.fa v4 2),y 1 true (.ld l0 1 false),y 2 true (.fa v4 7),y 3 true (.ld l0 1 false),y 4 true (.mv v1),y 5 true (.ia l1 l0 1),y 6 true (.ld l0 1 false),y 7 true (.bin .sub l5 l0),y 8 true (.fa v8 1),y 9 true (.ld l0 1 false),y 10 true (.bin .gtr l2 l0),u (.pk l11 l0 (.b false))] [] 0 (.reg [w 10 (.mv (.i 2))] []) .skip) (.seq (.reg [f 6 v4,g l0,m v1,a 1 l1 l0,g l0,m v10,u (.bin .add l1 l0),u (.bin .rem l0 (.i 65536)),w 11 (.mv l0)] []) (.seq (.reg [f 6 v9,g l0,m v1,f 7 v9,g l0,m v1,m v11,f 2 v4,g l0,a 1 l7 l6,u (.st l0 l3 1 []),a 1 l6 l5,u (.st l0 l3 1 [])] [(4,11),(8,11)]) (.seq (.reg [m v1,m v11,f 2 v4,g l0,m v3,u (.bin .add l1 l0),u (.bd [.t (.int .i64 (0)),.t (.int .i64 (0)),.t (.int .i64 (0)),.nil] [(0,1,.l 5),(1,1,.l 4),(2,1,.l 0)]),w 12 (.al [.t (.int .i64 (0)),.t (.int .i64 (0)),.t (.int .i64 (0)),.nil] [(3,1)]),u (.st l0 l1 4 [(3,1)])] []) (.seq (.seq (.reg [f 3 v4,w 18 (.ld l0 1 false),w 19 (.ln l0),w 20 (.mv (.i 0))] []) (.blk 1 K.ee)) (.seq (.reg [f 3 v12,g l0,u (.ca N.a8 0 [0] [.l 0])] []) (.seq (.reg [h 9 v9,h 4 v12,u (.st v5 l1 9 []),u (.st v6 l1 4 []),w 7 (.mv (.i 0))] [(1,3)]) .ret))))))))))))),res:=[(5,some (9,true)),(6,some (4,true)),(7,none)]}
def iK:C:=(.seq (.ite [m v6,f 3 v2,g l0,u (.ln l0),u (.bin .lss l3 l0)] [] 0 .skip (.exit 0)) (.seq (.blk 1 (.reg [m v5,f 0 v2,g l0,f 3 v2,g l0,m v6,a 1 l1 l0,g l0,f 2 v2,g l0,m v0,f 0 v2,g l0,a 4 l2 l0,f 3 l0,g l0,u (.bin .sub l6 l0),u (.mx [.i 0,.l 0]),f 2 v2,g l0,m v0,f 0 v2,g l0,a 4 l2 l0,f 3 l0,g l0,u (.bin .add l6 l0),u (.bd [.t (.int .i64 (0)),.t (.int .i64 (0)),.t (.int .i64 (0)),.t (.int .i64 (0))] [(0,1,.l 24),(1,1,.l 19),(2,1,.l 9),(3,1,.l 0)]),u (.bs [.l 0] 4),u (.app (.l 28) l0 true 4),w 5 (.mv l0)] [])) (.reg [m v6,u (.bin .add l0 (.i 1)),w 6 (.mv l0)] [])))
def vw:C:= .loop true [1,3,4] K.iK
def ed:Fn:={ nargs:=2,vars:=[0,1,3,4,5,6,7],body:=(.seq (.reg [w 2 (.bx v1 4),w 3 (.mv (.c (.nil))),w 4 (.mv (.i 0))] []) (.seq (.ite [h 4 v2,u (.ca N.br 0 [] [.l 0]),u (.un .not l0)] [] 0 (.seq (.reg [w 3 (.mv (.c (.nil))),w 4 (.mv (.i 6))] []) .ret) .skip) (.seq (.ite [f 0 v2,g l0,m v0,u (.ln l0),u (.bin .geq l2 l0)] [] 0 (.seq (.reg [w 3 (.mv (.c (.nil))),w 4 (.mv (.i 40))] []) .ret) .skip) (.seq (.reg [w 5 (.nw 4)] []) (.seq (.seq (.reg [w 6 (.mv (.i 0))] []) (.blk 0 K.vw)) (.seq (.reg [m v5,w 3 (.mv l0),w 4 (.mv (.i 0))] []) .ret)))))),res:=[(3,none),(4,none)]}
def fR:C:=(.seq (.ite [m v6,m v3,u (.ln l0),u (.bin .lss l2 l0)] [] 0 .skip (.exit 0)) (.seq (.blk 1 (.ite [m v3,m v6,a 4 l1 l0,h 4 l0,u (.ca N.br 0 [] [.l 0]),u (.un .not l0)] [] 0 (.seq (.reg [w 4 (.mv (.c (.nil))),w 5 (.mv (.i 6))] []) .ret) .skip)) (.reg [m v6,u (.bin .add l0 (.i 1)),w 6 (.mv l0)] [])))
def ji:C:= .loop true [4,5,7,8,9,10,11,12,13,14] K.fR
def fS:C:=(.seq (.ite [m v9,m v3,u (.ln l0),u (.bin .lss l2 l0)] [] 0 .skip (.exit 2)) (.seq (.blk 3 (.ite [m v3,m v9,a 4 l1 l0,f 0 l0,g l0,m v1,u (.bin .eql l1 l0)] [] 0 (.reg [m v8,m v3,m v9,a 4 l1 l0,h 4 l0,u (.bs [.l 0] 4),u (.app l5 l0 true 4),w 8 (.mv l0)] []) .skip)) (.reg [m v9,u (.bin .add l0 (.i 1)),w 9 (.mv l0)] [])))
def jj:C:= .loop true [0,4,5,6,10,11,12,13,14] K.fS
def dG:C:=(.seq (.ite [m v12,u (.bin .add l0 (.i 1)),m v8,u (.ln l0),u (.bin .lss l2 l0),m l0,y 0 true (.mv v8),y 1 true (.mv v12),y 2 true (.bin .add l0 (.i 1)),y 3 true (.ia l2 l0 4),y 4 true (.fa l0 3),y 5 true (.ld l0 1 false),y 6 true (.mv v2),y 7 true (.ca N.dn 0 [] [.l 1,.l 0]),y 8 true (.un .not l0),u (.pk l9 l0 (.b false)),m l0,y 0 true (.ld v7 4 true),y 1 true (.mv v8),y 2 true (.mv v12),y 3 true (.ia l1 l0 4),y 4 true (.ld l0 4 true),y 5 true (.mv v8),y 6 true (.mv v12),y 7 true (.bin .add l0 (.i 1)),y 8 true (.ia l2 l0 4),y 9 true (.ld l0 4 true),y 10 true (.ca N.bY 0 [] [.l 9,.l 5,.l 0]),u (.pk l11 l0 (.b false))] [] 0 .skip (.exit 6)) (.blk 7 (.reg [m v12,u (.bin .add l0 (.i 1)),w 12 (.mv l0)] [])))
def jk:C:= .loop true [0,3,4,5,6,9,13,14] K.dG
def cR:C:=(.seq (.ite [m v11,m v8,u (.ln l0),u (.bin .lss l2 l0)] [] 0 .skip (.exit 4)) (.blk 5 (.seq (.ite [m v8,m v11,a 4 l1 l0,f 3 l0,g l0,m v2,u (.ca N.dn 0 [] [.l 1,.l 0])] [] 0 (.seq (.reg [m v11,u (.bin .add l0 (.i 1)),w 11 (.mv l0)] []) (.exit 5)) .skip) (.seq (.reg [m v11,w 12 (.mv l0)] []) (.seq (.blk 6 K.jk) (.seq (.reg [m v8,m v11,a 4 l1 l0,f 2 l0,g l0,f 3 v7,g l0,u (.bin .add l2 l0),m v8,m v12,a 4 l1 l0,f 2 l0,g l0,f 3 v7,g l0,u (.bin .sub l2 l0),w 13 (.mv l8),w 14 (.mv l1)] []) (.seq (.ite [m v12,m v11,u (.bin .gtr l1 l0),m l0,y 0 true (.mv v14),y 1 true (.mv v13),y 2 true (.bin .gtr l1 l0),u (.pk l3 l0 (.b false))] [] 0 (.reg [m v10,m v1,m v2,m v13,m v14,u (.bd [.t (.int .i64 (0)),.t (.int .i64 (0)),.t (.int .i64 (0)),.t (.int .i64 (0))] [(0,1,.l 3),(1,1,.l 2),(2,1,.l 1),(3,1,.l 0)]),u (.bs [.l 0] 4),u (.app l6 l0 true 4),w 10 (.mv l0)] []) .skip) (.reg [m v12,u (.bin .add l0 (.i 1)),w 11 (.mv l0)] []))))))))
def jl:C:= .loop true [0,3,4,5,6,9,12,13,14] K.cR
def cr:Fn:={ nargs:=4,vars:=[0,1,2,3,8,9,10,11,12,13,14,15,16,17,18],body:=(.seq (.reg [w 4 (.mv (.c (.nil))),w 5 (.mv (.i 0))] []) (.seq (.ite [m v3,u (.ln l0),u (.bin .gtr l0 (.i 400))] [] 0 (.seq (.reg [w 4 (.mv (.c (.nil))),w 5 (.mv (.i 2))] []) .ret) .skip) (.seq (.seq (.reg [w 6 (.mv (.i 0))] []) (.blk 0 K.ji)) (.seq (.ite [m v1,u (.bin .lss l0 (.i 0)),m l0,y 0 false (.mv v1),y 1 false (.mv v0),y 2 false (.ln l0),y 3 false (.bin .geq l2 l0),u (.pk l4 (.b true) l0)] [] 0 (.seq (.reg [w 4 (.mv (.c (.nil))),w 5 (.mv (.i 40))] []) .ret) .skip) (.seq (.ite [m v2,u (.bin .lss l0 (.i 1)),m l0,y 0 false (.mv v2),y 1 false (.bin .gtr l0 (.i 65535)),u (.pk l2 (.b true) l0)] [] 0 (.seq (.reg [w 4 (.mv (.c (.nil))),w 5 (.mv (.i 41))] []) .ret) .skip) (.seq (.reg [m v0,m v1,a 4 l1 l0,h 4 l0,w 7 (.al [.nil,.t (.int .i64 (0)),.t (.int .i64 (0)),.t (.int .i64 (0))] []),u (.st l0 l1 4 [])] []) (.seq (.reg [w 8 (.nw 4)] []) (.seq (.seq (.reg [w 9 (.mv (.i 0))] []) (.blk 2 K.jj)) (.seq (.reg [w 10 (.nw 4)] []) (.seq (.seq (.reg [w 11 (.mv (.i 0))] []) (.blk 4 K.jl)) (.seq (.reg [m v10,w 4 (.mv l0),w 5 (.mv (.i 0))] []) .ret))))))))))),res:=[(4,none),(5,none)]}
end Go.Ev.K
namespace Go.Ev
class dM [Lib]:Prop where
 fT:Lib.fs N.bG=some K.bG
 mO:Lib.fs N.dK=some K.dK
 jK:Lib.fs N.bN=some K.bN
 jL:Lib.fs N.cj=some K.cj
 kq:Lib.fs N.cQ=some K.cQ
 ea:Lib.fs N.ae=some K.ae
 nB:Lib.fs N.ed=some K.ed
 gI:Lib.fs N.cr=some K.cr
namespace K
variable [Lib] [dM]
theorem fT:Lib.fs N.bG=some K.bG:=dM.fT
theorem mO:Lib.fs N.dK=some K.dK:=dM.mO
theorem jK:Lib.fs N.bN=some K.bN:=dM.jK
theorem jL:Lib.fs N.cj=some K.cj:=dM.jL
theorem kq:Lib.fs N.cQ=some K.cQ:=dM.kq
theorem ea:Lib.fs N.ae=some K.ae:=dM.ea
theorem nB:Lib.fs N.ed=some K.ed:=dM.nB
theorem gI:Lib.fs N.cr=some K.cr:=dM.gI
end K
end Go.Ev
namespace Go.Ev.K
open Go.Ev
def dL:Fn:={ nargs:=1,vars:=[0,1,2],body:=(.seq (.reg [w 1 (.bx v0 4),w 2 (.mv (.i 0))] []) (.seq (.reg [f 2 v1,g l0,u (.bin .add l0 (.i 1)),f 1 v1,g l0,u (.bin .mul l2 l0),w 2 (.mv l0)] []) .ret)),res:=[(2,none)]}
def fH:Fn:={ nargs:=0,vars:=[0],body:=(.seq (.reg [w 0 (.al [.nil,.nil] [])] []) (.seq (.reg [u (.bd [.t (.int .i64 (0)),.t (.bool false)] [(1,1,.b true)]),u (.bd [.t (.int .i64 (0)),.t (.bool false)] []),u (.bs [.l 1,.l 0] 2),u (.bd [.t (.int .i64 (0)),.t (.int .i64 (0))] [(0,1,.i 1),(1,1,.i 1)]),u (.bd [.t (.int .i64 (0)),.t (.int .i64 (0)),.t (.int .i64 (0)),.t (.int .i64 (0)),.t (.bool false),.t (.bool false),.t (.int .i64 (0)),.t (.int .i64 (0)),.t (.int .i64 (0)),.t (.int .i64 (0))] [(1,1,.i 1),(2,1,.i 12),(3,1,.i 1),(4,1,.b true),(6,2,.l 0)]),u (.bs [.l 0] 10),u (.bd [.nil,.nil] [(0,1,.l 3),(1,1,.l 0)]),u (.st v0 l0 2 [])] []) .ret)),res:=[(0,some (2,true))]}
def bH:Fn:={ nargs:=2,vars:=[0,1,2,4,5],body:=(.seq (.reg [w 2 (.bx v0 2),w 3 (.mv (.b false))] []) (.seq (.reg [u (.mf N.aZ [.v 2]),w 4 (.mv l0)] []) (.seq (.reg [h 2 v2,u (.ca N.dV 0 [] [.l 0]),m l0,y 0 true (.mv v1),y 1 true (.ln l0),y 2 true (.bin .leq l0 (.i 32)),u (.pk l3 l0 (.b false)),m l0,y 0 true (.mv v1),y 1 true (.mv v4),y 2 true (.ca N.ai 0 [] [.l 1,.l 0]),y 3 true (.un .not l0),u (.pk l4 l0 (.b false)),w 3 (.mv l0)] []) .ret))),res:=[(3,none)]}
def b7:Fn:={ nargs:=2,vars:=[0,1,3],body:=(.seq (.reg [w 2 (.mv (.b false))] []) (.seq (.reg [m v0,f 0 v1,g l0,u (.ln l0),u (.bin .sub l0 (.i 1)),u (.ca N.bJ 0 [] [.l 4,.i 0,.l 0]),u (.un .not l0),w 2 (.mv l0)] []) .ret)),res:=[(2,none)]}
def cN:Fn:={ nargs:=1,vars:=[0,2],body:=(.seq (.reg [w 1 (.mv (.b false))] []) (.seq (.reg [m v0,u (.ca N.aY 0 [] [.l 0]),u (.ca N.bW 0 [] [.l 0]),u (.ca N.cJ 0 [] [.l 0,.i 1,.i 65535]),w 1 (.mv l0)] []) .ret)),res:=[(1,none)]}
def gJ:C:=(.its [u (.bin .lss v8 v7)] [] 0 .skip (.exit 0) (.seq (.blk 1 (.seq (.reg [a 4 v6 v8,h 4 l0,w 4 (.al [.nil,.t (.int .i64 (0)),.t (.int .i64 (0)),.t (.int .i64 (0))] []),u (.st l0 l1 4 [])] []) (.seq (.reg [f 0 v4,g l0,u (.ca N.au 0 [] [.l 0]),f 0 v4,u (.st l0 l1 1 [])] []) (.reg [f 5 v3,g l0,h 4 v4,u (.bs [.l 0] 4),u (.app l2 l0 true 4),f 5 v3,u (.st l0 l1 1 [])] [])))) (.reg [u (.bin .add v8 (.i 1)),w 8 (.mv l0)] [])))
def kr:C:= .loop true [0,4,5,9,10,11] K.gJ
def gK:C:=(.its [u (.bin .lss v11 v10)] [] 0 .skip (.exit 2) (.seq (.blk 3 (.seq (.reg [a 1 v9 v11,g l0,w 5 (.mv l0)] []) (.reg [f 8 v3,g l0,m v5,u (.ca N.au 0 [] [.l 0]),u (.bs [.l 0] 1),u (.app l3 l0 true 1),f 8 v3,u (.st l0 l1 1 [])] [(1,4),(1,5)]))) (.reg [u (.bin .add v11 (.i 1)),w 11 (.mv l0)] [])))
def kt:C:= .loop true [0,1,4,5,6,7,8] K.gK
def df:Fn:={ nargs:=1,vars:=[0,1,2,3,5,7,29,30,31,56,57,58],body:=(.seq (.reg [w 1 (.bx v0 9),w 2 (.al [.nil,.nil,.t (.int .i64 (0)),.nil,.nil,.nil,.nil,.nil,.nil] [])] []) (.seq (.reg [h 9 v1,w 3 (.al [.nil,.nil,.t (.int .i64 (0)),.nil,.nil,.nil,.nil,.nil,.nil] [(5,4),(8,1)]),u (.st l0 l1 9 [])] []) (.seq (.reg [f 0 v1,f 0 l0,g l0,u (.ca N.ay 0 [] [.l 0]),f 0 v1,f 1 l0,g l0,u (.ca N.aB 0 [] [.l 0]),u (.bd [.nil,.nil] [(0,1,.l 4),(1,1,.l 0)]),f 0 v3,u (.st l0 l1 2 [])] [(6,0)]) (.seq (.reg [f 3 v1,g l0,u (.ca N.aj 0 [] [.l 0]),f 4 v1,g l0,u (.ca N.au 0 [] [.l 0]),f 3 v3,u (.st l0 l4 1 []),f 4 v3,u (.st l0 l3 1 [])] [(4,0)]) (.seq (.reg [f 5 v3,u (.st l0 (.c (.nil)) 1 [(5,4)])] []) (.seq (.seq (.reg [f 5 v1,w 6 (.ld l0 1 false),w 7 (.ln l0),w 8 (.mv (.i 0))] []) (.blk 0 K.kr)) (.seq (.reg [f 6 v1,g l0,u (.ca N.au 0 [] [.l 0]),f 7 v1,g l0,u (.ca N.au 0 [] [.l 0]),f 6 v3,u (.st l0 l4 1 []),f 7 v3,u (.st l0 l3 1 [])] [(4,0)]) (.seq (.reg [f 8 v3,u (.st l0 (.c (.nil)) 1 [(8,1)])] []) (.seq (.seq (.reg [f 8 v1,w 9 (.ld l0 1 false),w 10 (.ln l0),w 11 (.mv (.i 0))] []) (.blk 2 K.kt)) (.seq (.reg [h 9 v3,u (.st v2 l0 9 [])] []) .ret)))))))))),res:=[(2,some (9,true))]}
def eU:C:=(.its [u (.bin .lss v7 v6)] [] 0 .skip (.exit 0) (.seq (.blk 1 (.seq (.reg [a 1 v5 v7,g l0,w 4 (.mv l0)] []) (.ite [m v4,f 3 v2,g l0,u (.ln l0),u (.bin .sub l0 (.i 1)),u (.ca N.bJ 0 [] [.l 4,.i 0,.l 0]),u (.un .not l0)] [] 0 (.seq (.reg [w 3 (.mv (.i 19))] []) .ret) .skip))) (.reg [u (.bin .add v7 (.i 1)),w 7 (.mv l0)] [])))
def ow:C:= .loop true [0,1,3,4] K.eU
def bX:Fn:={ nargs:=2,vars:=[0,1,2,4,6,10,11,12],body:=(.seq (.reg [w 2 (.bx v0 9),w 3 (.mv (.i 0))] []) (.seq (.ite [h 9 v2,u (.ca N.cY 0 [] [.l 0]),u (.un .not l0)] [] 0 (.seq (.reg [w 3 (.mv (.i 6))] []) .ret) .skip) (.seq (.seq (.reg [w 5 (.mv v1),w 6 (.ln l0),w 7 (.mv (.i 0))] []) (.blk 0 K.ow)) (.seq (.reg [w 3 (.mv (.i 0))] []) .ret)))),res:=[(3,none)]}
def bO:Fn:={ nargs:=3,vars:=[0,1,2,3,6,14],body:=(.seq (.reg [w 3 (.bx v0 2),w 4 (.mv (.i 0))] []) (.seq (.ite [m v1,f 1 v3,g l0,u (.ln l0),u (.bin .sub l0 (.i 1)),u (.ca N.bJ 0 [] [.l 4,.i 0,.l 0]),u (.un .not l0)] [] 0 (.seq (.reg [w 4 (.mv (.i (-1)))] []) .ret) .skip) (.seq (.seq (.reg [w 5 (.mv v2)] []) (.blk 0 (.ite [f 1 v3,g l0,m v1,a 10 l1 l0,f 0 l0,g l0,u (.bin .eql v5 l0),m l0] [] 0 (.seq (.reg [h 2 v3,m v1,u (.ca N.eQ 0 [] [.l 1,.l 0,.b false]),w 4 (.mv l0)] []) .ret) (.ite [f 1 v3,g l0,m v1,a 10 l1 l0,f 1 l0,g l0,u (.bin .eql v5 l0),m l0] [] 0 (.seq (.reg [h 2 v3,m v1,u (.ca N.eQ 0 [] [.l 1,.l 0,.b true]),w 4 (.mv l0)] []) .ret) .skip)))) (.seq (.reg [w 4 (.mv (.i (-1)))] []) .ret)))),res:=[(4,none)]}
def fU:C:=(.its [u (.bin .lss v7 v6)] [] 0 .skip (.exit 0) (.seq (.blk 1 (.seq (.reg [m v7,w 5 (.al [.t (.int .i64 (0))] []),u (.st l0 l1 1 [])] []) (.seq (.ite [f 6 v1,g l0,g v5,a 1 l1 l0,g l0,u (.ca N.bJ 0 [] [.l 0,.i (-1),.i 65535]),u (.un .not l0),m l0,y 0 false (.fa v1 7),y 1 false (.ld l0 1 false),y 2 false (.ld v5 1 false),y 3 false (.ia l1 l0 1),y 4 false (.ld l0 1 false),y 5 false (.fa v1 2),y 6 false (.ld l0 1 false),y 7 false (.ca N.bJ 0 [] [.l 2,.i (-1),.l 0]),y 8 false (.un .not l0),u (.pk l9 (.b true) l0),m l0,y 0 false (.fa v1 6),y 1 false (.ld l0 1 false),y 2 false (.ld v5 1 false),y 3 false (.ia l1 l0 1),y 4 false (.ld l0 1 false),y 5 false (.bin .eql l0 (.i (-1))),y 6 false (.fa v1 7),y 7 false (.ld l0 1 false),y 8 false (.ld v5 1 false),y 9 false (.ia l1 l0 1),y 10 false (.ld l0 1 false),y 11 false (.bin .eql l0 (.i (-1))),y 12 false (.eqk (.bool) true l6 l0),u (.pk (.l 13) (.b true) l0),m l0,y 0 false (.fa v1 8),y 1 false (.ld l0 1 false),y 2 false (.ld v5 1 false),y 3 false (.ia l1 l0 1),y 4 false (.ld l0 1 false),y 5 false (.ln l0),y 6 false (.mv v3),y 7 false (.bin .neq l1 l0),u (.pk l8 (.b true) l0)] [] 0 (.seq (.reg [w 2 (.mv (.b false))] []) .ret) .skip) (.ite [f 8 v1,g l0,g v5,a 1 l1 l0,g l0,u (.mf N.b8 [.v 1,.v 5]),u (.ca N.aF 0 [] [.l 1,.l 0])] [] 0 (.seq (.reg [w 2 (.mv (.b false))] []) .ret) .skip)))) (.reg [u (.bin .add v7 (.i 1)),w 7 (.mv l0)] [])))
def lg:C:= .loop true [0,2,4,5] K.fU
def cY:Fn:={ nargs:=1,vars:=[0,1,2,3,4,5,65,66],body:=(.seq (.reg [w 1 (.bx v0 9),w 2 (.mv (.b false))] []) (.seq (.reg [f 3 v1,g l0,u (.ln l0),f 5 v1,g l0,u (.ln l0),w 3 (.mv l3),w 4 (.mv l1)] []) (.seq (.ite [f 0 v1,h 2 l0,f 5 v1,g l0,u (.ca N.bH 0 [] [.l 2,.l 0]),u (.un .not l0),m l0,y 0 false (.mv v3),y 1 false (.ca N.bJ 0 [] [.l 0,.i 1,.i 12]),y 2 false (.un .not l0),u (.pk l3 (.b true) l0),m l0,y 0 false (.fa v1 4),y 1 false (.ld l0 1 false),y 2 false (.ln l0),y 3 false (.mv v3),y 4 false (.bin .neq l1 l0),u (.pk l5 (.b true) l0),m l0,y 0 false (.fa v1 4),y 1 false (.ld l0 1 false),y 2 false (.ca N.cN 0 [] [.l 0]),y 3 false (.un .not l0),u (.pk l4 (.b true) l0),m l0,y 0 false (.fa v1 2),y 1 false (.ld l0 1 false),y 2 false (.ca N.bJ 0 [] [.l 0,.i 0,.i 2147483648]),y 3 false (.un .not l0),u (.pk l4 (.b true) l0),m l0,y 0 false (.fa v1 6),y 1 false (.ld l0 1 false),y 2 false (.ln l0),y 3 false (.mv v4),y 4 false (.bin .neq l1 l0),u (.pk l5 (.b true) l0),m l0,y 0 false (.fa v1 7),y 1 false (.ld l0 1 false),y 2 false (.ln l0),y 3 false (.mv v4),y 4 false (.bin .neq l1 l0),u (.pk l5 (.b true) l0),m l0,y 0 false (.fa v1 8),y 1 false (.ld l0 1 false),y 2 false (.ln l0),y 3 false (.mv v4),y 4 false (.bin .neq l1 l0),u (.pk l5 (.b true) l0)] [] 0 (.seq (.reg [w 2 (.mv (.b false))] []) .ret) .skip) (.seq (.seq (.reg [f 5 v1,g l0,w 6 (.ln l0),w 7 (.mv (.i 0))] []) (.blk 0 K.lg)) (.seq (.reg [f 3 v1,g l0,u (.mf N.b9 [.v 1]),u (.ca N.aq 0 [] [.l 1,.l 0]),u (.un .not l0),w 2 (.mv l0)] []) .ret))))),res:=[(2,none)]}
def dW:Fn:={ nargs:=3,vars:=[0,1,2,3,6,7,22],body:=(.seq (.reg [w 3 (.bx v0 2),w 4 (.mv (.i 0))] []) (.seq (.ite [m v1,u (.bin .lss l0 (.i 0)),m l0,y 0 false (.mv v1),y 1 false (.fa v3 1),y 2 false (.ld l0 1 false),y 3 false (.ln l0),y 4 false (.bin .geq l3 l0),u (.pk l5 (.b true) l0)] [] 0 (.seq (.reg [w 4 (.mv (.i (-1)))] []) .ret) .skip) (.seq (.seq (.reg [f 1 v3,g l0,m v1,a 10 l1 l0,h 10 l0,w 5 (.al [.t (.int .i64 (0)),.t (.int .i64 (0)),.t (.int .i64 (0)),.t (.int .i64 (0)),.t (.bool false),.t (.bool false),.t (.int .i64 (0)),.t (.int .i64 (0)),.t (.int .i64 (0)),.t (.int .i64 (0))] []),u (.st l0 l1 10 [])] []) (.seq (.reg [w 6 (.mv v2)] []) (.blk 0 (.ite [f 0 v5,g l0,u (.bin .eql v6 l0),m l0] [] 0 (.seq (.reg [f 1 v5,g l0,w 4 (.mv l0)] []) .ret) (.ite [f 1 v5,g l0,u (.bin .eql v6 l0),m l0] [] 0 (.seq (.reg [f 0 v5,g l0,w 4 (.mv l0)] []) .ret) .skip))))) (.seq (.reg [w 4 (.mv (.i (-1)))] []) .ret)))),res:=[(4,none)]}
def fV:C:=(.seq (.ite [m v3,f 3 v1,g l0,u (.ln l0),u (.bin .lss l3 l0)] [] 0 .skip (.exit 0)) (.seq (.blk 1 (.ite [f 3 v1,g l0,m v3,a 1 l1 l0,g l0,u (.bin .lss l0 (.i 1)),m l0,y 0 false (.fa v1 3),y 1 false (.ld l0 1 false),y 2 false (.mv v3),y 3 false (.ia l1 l0 1),y 4 false (.ld l0 1 false),y 5 false (.bin .gtr l0 (.i 65535)),u (.pk l6 (.b true) l0),m l0,y 0 false (.mv v3),y 1 false (.bin .gtr l0 (.i 0)),y 2 false (.mv l0),y 0 true (.fa v1 3),y 1 true (.ld l0 1 false),y 2 true (.mv v3),y 3 true (.ia l1 l0 1),y 4 true (.ld l0 1 false),y 5 true (.fa v1 3),y 6 true (.ld l0 1 false),y 7 true (.mv v3),y 8 true (.bin .sub l0 (.i 1)),y 9 true (.ia l2 l0 1),y 10 true (.ld l0 1 false),y 11 true (.bin .leq l6 l0),y 15 false (.pk (.l 12) l0 (.b false)),u (.pk (.l 16) (.b true) l0)] [] 0 (.seq (.reg [w 2 (.mv (.b false))] []) .ret) .skip)) (.reg [m v3,u (.bin .add l0 (.i 1)),w 3 (.mv l0)] [])))
def p7:C:= .loop true [0,2] K.fV
def br:Fn:={ nargs:=1,vars:=[0,1,2,3],body:=(.seq (.reg [w 1 (.bx v0 4),w 2 (.mv (.b false))] []) (.seq (.seq (.reg [w 3 (.mv (.i 0))] []) (.blk 0 K.p7)) (.seq (.reg [f 0 v1,g l0,u (.bin .geq l0 (.i 0)),m l0,y 0 true (.fa v1 0),y 1 true (.ld l0 1 false),y 2 true (.bin .lss l0 (.i 32)),u (.pk l3 l0 (.b false)),m l0,y 0 true (.fa v1 1),y 1 true (.ld l0 1 false),y 2 true (.bin .geq l0 (.i 0)),u (.pk l3 l0 (.b false)),m l0,y 0 true (.fa v1 1),y 1 true (.ld l0 1 false),y 2 true (.bin .leq l0 (.i 65535)),u (.pk l3 l0 (.b false)),m l0,y 0 true (.fa v1 2),y 1 true (.ld l0 1 false),y 2 true (.bin .geq l0 (.i 0)),u (.pk l3 l0 (.b false)),m l0,y 0 true (.fa v1 2),y 1 true (.ld l0 1 false),y 2 true (.bin .leq l0 (.i 2147483648)),u (.pk l3 l0 (.b false)),m l0,y 0 true (.fa v1 3),y 1 true (.ld l0 1 false),y 2 true (.ln l0),y 3 true (.bin .leq l0 (.i 20)),u (.pk l4 l0 (.b false)),w 2 (.mv l0)] []) .ret))),res:=[(2,none)]}
def bY:Fn:={ nargs:=3,vars:=[0,1,2,3,4,5,6],body:=(.seq (.reg [w 3 (.bx v0 4),w 4 (.bx v1 4),w 5 (.bx v2 4),w 6 (.mv (.b false))] []) (.seq (.reg [f 1 v5,g l0,f 1 v4,g l0,u (.bin .add l0 (.i 1)),u (.bin .rem l0 (.i 65536)),u (.bin .eql l4 l0),m l0,y 0 true (.fa v5 2),y 1 true (.ld l0 1 false),y 2 true (.fa v4 2),y 3 true (.ld l0 1 false),y 4 true (.bin .geq l2 l0),u (.pk l5 l0 (.b false)),m l0,y 0 true (.fa v5 2),y 1 true (.ld l0 1 false),y 2 true (.fa v4 2),y 3 true (.ld l0 1 false),y 4 true (.bin .sub l2 l0),y 5 true (.fa v3 1),y 6 true (.ld l0 1 false),y 7 true (.fa v3 3),y 8 true (.ld l0 1 false),y 9 true (.bin .mul (.i 2) l0),y 10 true (.bin .add l3 l0),y 11 true (.bin .leq l6 l0),u (.pk (.l 12) l0 (.b false)),w 6 (.mv l0)] []) .ret)),res:=[(6,none)]}
end Go.Ev.K
namespace Go.Ev
class dr [Lib]:Prop where
 jM:Lib.fs N.dL=some K.dL
 od:Lib.fs N.fH=some K.fH
 gr:Lib.fs N.bH=some K.bH
 il:Lib.fs N.b7=some K.b7
 iW:Lib.fs N.cN=some K.cN
 iX:Lib.fs N.df=some K.df
 im:Lib.fs N.bX=some K.bX
 iY:Lib.fs N.bO=some K.bO
 jN:Lib.fs N.cY=some K.cY
 ku:Lib.fs N.dW=some K.dW
 jO:Lib.fs N.br=some K.br
 iq:Lib.fs N.bY=some K.bY
namespace K
variable [Lib] [dr]
theorem jM:Lib.fs N.dL=some K.dL:=dr.jM
theorem od:Lib.fs N.fH=some K.fH:=dr.od
theorem gr:Lib.fs N.bH=some K.bH:=dr.gr
theorem il:Lib.fs N.b7=some K.b7:=dr.il
theorem iW:Lib.fs N.cN=some K.cN:=dr.iW
theorem iX:Lib.fs N.df=some K.df:=dr.iX
theorem im:Lib.fs N.bX=some K.bX:=dr.im
theorem iY:Lib.fs N.bO=some K.bO:=dr.iY
theorem jN:Lib.fs N.cY=some K.cY:=dr.jN
theorem ku:Lib.fs N.dW=some K.dW:=dr.ku
theorem jO:Lib.fs N.br=some K.br:=dr.jO
theorem iq:Lib.fs N.bY=some K.bY:=dr.iq
end K
end Go.Ev
namespace Go.Ev.K
open Go.Ev
def aZ:Fn:={ nargs:=2,vars:=[0,1,2,3],body:=(.seq (.reg [w 2 (.bx v0 4),w 3 (.mv (.b false))] []) (.seq (.reg [f 0 v2,g l0,u (.ln l0),u (.bin .eql l0 (.i 0)),m l0,y 0 false (.fa v2 0),y 1 false (.ld l0 1 false),y 2 false (.fa v1 0),y 3 false (.ld l0 1 false),y 4 false (.ln l0),y 5 false (.bin .sub l0 (.i 1)),y 6 false (.ca N.cJ 0 [] [.l 4,.i 0,.l 0]),y 7 false (.un .not l0),u (.pk l8 (.b true) l0),m l0,y 0 false (.fa v2 1),y 1 false (.ld l0 1 false),y 2 false (.ca N.bJ 0 [] [.l 0,.i 1,.i 600]),y 3 false (.un .not l0),u (.pk l4 (.b true) l0),m l0,y 0 false (.fa v2 2),y 1 false (.ld l0 1 false),y 2 false (.ca N.bJ 0 [] [.l 0,.i 0,.i 10]),y 3 false (.un .not l0),u (.pk l4 (.b true) l0),m l0,y 0 false (.fa v2 3),y 1 false (.ld l0 1 false),y 2 false (.ca N.bJ 0 [] [.l 0,.i 0,.i 60]),y 3 false (.un .not l0),u (.pk l4 (.b true) l0),w 3 (.mv l0)] []) .ret)),res:=[(3,none)]}
def ai:Fn:={ nargs:=2,vars:=[0,1,4],body:=(.seq (.reg [w 2 (.mv (.b false))] []) (.seq (.reg [m v0,m v1,u (.ca N.ax 0 [] [.l 1,.l 0]),u (.bin .geq l0 (.i 0)),w 2 (.mv l0)] []) .ret)),res:=[(2,none)]}
def aj:Fn:={ nargs:=1,vars:=[0,2],body:=(.seq (.reg [w 1 (.mv (.c (.nil)))] []) (.itk [m v0,u (.eqk (.sl) false l0 (.c (.nil)))] [] 0 (.seq (.reg [w 1 (.nw 3)] []) .ret) .skip (.seq (.reg [u (.bsr [] 3),m v0,u (.app l1 l0 false 3),w 1 (.mv l0)] []) .ret))),res:=[(1,none)]}
def b8:Fn:={ nargs:=3,vars:=[0,1,2,4],body:=(.seq (.reg [w 3 (.mv (.b false))] []) (.seq (.reg [m v0,f 5 v1,g l0,g v2,a 4 l1 l0,f 2 l0,g l0,u (.ca N.bJ 0 [] [.l 6,.i 0,.l 0]),u (.un .not l0),w 3 (.mv l0)] []) .ret)),res:=[(3,none)]}
def aq:Fn:={ nargs:=2,vars:=[0,1,4],body:=(.seq (.reg [w 2 (.mv (.b false))] []) (.seq (.reg [m v0,m v1,u (.ca N.aA 0 [] [.l 1,.l 0]),u (.bin .geq l0 (.i 0)),w 2 (.mv l0)] []) .ret)),res:=[(2,none)]}
def b9:Fn:={ nargs:=2,vars:=[0,1,2,3],body:=(.seq (.reg [w 2 (.bx v0 3),w 3 (.mv (.b false))] []) (.seq (.reg [f 0 v1,h 2 l0,h 3 v2,u (.ca N.cz 0 [] [.l 1,.l 0]),u (.un .not l0),w 3 (.mv l0)] []) .ret)),res:=[(3,none)]}
def cz:Fn:={ nargs:=2,vars:=[0,1,2,3,4],body:=(.seq (.reg [w 2 (.bx v0 2),w 3 (.bx v1 3),w 4 (.mv (.b false))] []) (.seq (.blk 0 (.ite [f 0 v3,g l0,f 0 v2,g l0,u (.ln l0),u (.bin .sub l0 (.i 1)),u (.ca N.bJ 0 [] [.l 4,.i 0,.l 0]),u (.un .not l0),m l0] [] 0 (.seq (.reg [w 4 (.mv (.b false))] []) .ret) (.ite [f 1 v3,g l0,u (.bin .eql l0 (.i (-1))),m l0] [] 0 (.seq (.reg [f 2 v3,g l0,u (.bin .eql l0 (.i 0)),w 4 (.mv l0)] []) .ret) .skip))) (.seq (.reg [h 2 v2,f 1 v3,g l0,f 0 v3,g l0,u (.ca N.bO 0 [] [.l 4,.l 2,.l 0]),u (.bin .geq l0 (.i 0)),m l0,y 0 true (.fa v3 2),y 1 true (.ld l0 1 false),y 2 true (.ca N.bJ 0 [] [.l 0,.i 1,.i 2147483648]),u (.pk l3 l0 (.b false)),w 4 (.mv l0)] []) .ret))),res:=[(4,none)]}
def aT:C:=(.its [u (.bin .lss v5 v4)] [] 0 .skip (.exit 0) (.seq (.blk 1 (.seq (.reg [m v5,w 3 (.mv l0)] []) (.ite [m v1,m v0,m v3,a 4 l1 l0,h 4 l0,u (.cw l4 0 [] [.l 0])] [] 0 (.seq (.reg [m v3,w 2 (.mv l0)] []) .ret) .skip))) (.reg [u (.bin .add v5 (.i 1)),w 5 (.mv l0)] [])))
def b5:C:= .loop true [2,3] K.aT
def ax:Fn:={ nargs:=2,vars:=[0,1,4,5,7,8],body:=(.seq (.reg [w 2 (.mv (.i 0))] []) (.seq (.seq (.reg [m v0,w 4 (.ln l0),w 5 (.mv (.i 0))] []) (.blk 0 K.b5)) (.seq (.reg [w 2 (.mv (.i (-1)))] []) .ret))),res:=[(2,none)]}
def a7:C:=(.its [u (.bin .lss v5 v4)] [] 0 .skip (.exit 0) (.seq (.blk 1 (.seq (.reg [m v5,w 3 (.mv l0)] []) (.ite [m v1,m v0,m v3,a 3 l1 l0,h 3 l0,u (.cw l4 0 [] [.l 0])] [] 0 (.seq (.reg [m v3,w 2 (.mv l0)] []) .ret) .skip))) (.reg [u (.bin .add v5 (.i 1)),w 5 (.mv l0)] [])))
def cE:C:= .loop true [2,3] K.a7
def aA:Fn:={ nargs:=2,vars:=[0,1,4,5,7,8],body:=(.seq (.reg [w 2 (.mv (.i 0))] []) (.seq (.seq (.reg [m v0,w 4 (.ln l0),w 5 (.mv (.i 0))] []) (.blk 0 K.cE)) (.seq (.reg [w 2 (.mv (.i (-1)))] []) .ret))),res:=[(2,none)]}
def fD:C:=(.its [u (.bin .lss v8 v7)] [] 0 .skip (.exit 0) (.seq (.blk 1 (.seq (.reg [a 4 v6 v8,h 4 l0,w 4 (.al [.nil,.t (.int .i64 (0)),.t (.int .i64 (0)),.t (.int .i64 (0))] []),u (.st l0 l1 4 [])] []) (.seq (.reg [f 0 v4,g l0,u (.ca N.au 0 [] [.l 0]),f 0 v4,u (.st l0 l1 1 [])] []) (.reg [f 5 v3,g l0,h 4 v4,u (.bs [.l 0] 4),u (.app l2 l0 true 4),f 5 v3,u (.st l0 l1 1 [])] [])))) (.reg [u (.bin .add v8 (.i 1)),w 8 (.mv l0)] [])))
def iL:C:= .loop true [0,4,5,9,10,11] K.fD
def fE:C:=(.its [u (.bin .lss v11 v10)] [] 0 .skip (.exit 2) (.seq (.blk 3 (.seq (.reg [a 1 v9 v11,g l0,w 5 (.mv l0)] []) (.reg [f 8 v3,g l0,m v5,u (.ca N.au 0 [] [.l 0]),u (.bs [.l 0] 1),u (.app l3 l0 true 1),f 8 v3,u (.st l0 l1 1 [])] [(1,4),(1,5)]))) (.reg [u (.bin .add v11 (.i 1)),w 11 (.mv l0)] [])))
def iM:C:= .loop true [0,1,4,5,6,7,8] K.fE
def bP:Fn:={ nargs:=1,vars:=[0,1,2,3,5,7,29,30,31,56,57,58],body:=(.seq (.reg [w 1 (.bx v0 9),w 2 (.al [.nil,.nil,.t (.int .i64 (0)),.nil,.nil,.nil,.nil,.nil,.nil] [])] []) (.seq (.reg [h 9 v1,w 3 (.al [.nil,.nil,.t (.int .i64 (0)),.nil,.nil,.nil,.nil,.nil,.nil] [(5,4),(8,1)]),u (.st l0 l1 9 [])] []) (.seq (.reg [f 0 v1,f 0 l0,g l0,u (.ca N.ay 0 [] [.l 0]),f 0 v1,f 1 l0,g l0,u (.ca N.aB 0 [] [.l 0]),u (.bd [.nil,.nil] [(0,1,.l 4),(1,1,.l 0)]),f 0 v3,u (.st l0 l1 2 [])] [(6,0)]) (.seq (.reg [f 3 v1,g l0,u (.ca N.aj 1 [] [.l 0]),f 4 v1,g l0,u (.ca N.au 0 [] [.l 0]),f 3 v3,u (.st l0 l4 1 []),f 4 v3,u (.st l0 l3 1 [])] [(4,0)]) (.seq (.reg [f 5 v3,u (.st l0 (.c (.nil)) 1 [(5,4)])] []) (.seq (.seq (.reg [f 5 v1,w 6 (.ld l0 1 false),w 7 (.ln l0),w 8 (.mv (.i 0))] []) (.blk 0 K.iL)) (.seq (.reg [f 6 v1,g l0,u (.ca N.au 0 [] [.l 0]),f 7 v1,g l0,u (.ca N.au 0 [] [.l 0]),f 6 v3,u (.st l0 l4 1 []),f 7 v3,u (.st l0 l3 1 [])] [(4,0)]) (.seq (.reg [f 8 v3,u (.st l0 (.c (.nil)) 1 [(8,1)])] []) (.seq (.seq (.reg [f 8 v1,w 9 (.ld l0 1 false),w 10 (.ln l0),w 11 (.mv (.i 0))] []) (.blk 2 K.iM)) (.seq (.reg [h 9 v3,u (.st v2 l0 9 [])] []) .ret)))))))))),res:=[(2,some (9,true))]}
def bh:C:=(.its [u (.bin .lss v8 v7)] [] 0 .skip (.exit 0) (.seq (.blk 1 (.seq (.reg [a 4 v6 v8,h 4 l0,w 4 (.al [.nil,.t (.int .i64 (0)),.t (.int .i64 (0)),.t (.int .i64 (0))] []),u (.st l0 l1 4 [])] []) (.seq (.reg [f 0 v4,g l0,u (.ca N.au 0 [] [.l 0]),f 0 v4,u (.st l0 l1 1 [])] []) (.reg [f 5 v3,g l0,h 4 v4,u (.bsr [.l 0] 4),u (.app l2 l0 false 4),f 5 v3,u (.st l0 l1 1 [])] [])))) (.reg [u (.bin .add v8 (.i 1)),w 8 (.mv l0)] [])))
def mP:C:= .loop false [0,4,5,9,10,11] K.bh
def bj:C:=(.its [u (.bin .lss v11 v10)] [] 0 .skip (.exit 2) (.seq (.blk 3 (.seq (.reg [a 1 v9 v11,g l0,w 5 (.mv l0)] []) (.reg [f 8 v3,g l0,m v5,u (.ca N.au 1 [] [.l 0]),u (.bsr [.l 0] 1),u (.app l3 l0 false 1),f 8 v3,u (.st l0 l1 1 [])] [(1,4),(1,5)]))) (.reg [u (.bin .add v11 (.i 1)),w 11 (.mv l0)] [])))
def mQ:C:= .loop false [0,1,4,5,6,7,8] K.bj
def aP:Fn:={ nargs:=1,vars:=[0,1,2,3,5,7,29,30,31,56,57,58],body:=(.seq (.reg [w 1 (.bx v0 9),w 2 (.al [.nil,.nil,.t (.int .i64 (0)),.nil,.nil,.nil,.nil,.nil,.nil] [])] []) (.seq (.reg [h 9 v1,w 3 (.al [.nil,.nil,.t (.int .i64 (0)),.nil,.nil,.nil,.nil,.nil,.nil] [(5,4),(8,1)]),u (.st l0 l1 9 [])] []) (.seq (.reg [f 0 v1,f 0 l0,g l0,u (.ca N.ay 0 [] [.l 0]),f 0 v1,f 1 l0,g l0,u (.ca N.aB 0 [] [.l 0]),u (.bd [.nil,.nil] [(0,1,.l 4),(1,1,.l 0)]),f 0 v3,u (.st l0 l1 2 [])] [(6,0)]) (.seq (.reg [f 3 v1,g l0,u (.ca N.aj 0 [] [.l 0]),f 4 v1,g l0,u (.ca N.au 0 [] [.l 0]),f 3 v3,u (.st l0 l4 1 []),f 4 v3,u (.st l0 l3 1 [])] [(4,0)]) (.seq (.reg [f 5 v3,u (.st l0 (.c (.nil)) 1 [(5,4)])] []) (.seq (.seq (.reg [f 5 v1,w 6 (.ld l0 1 false),w 7 (.ln l0),w 8 (.mv (.i 0))] []) (.blk 0 K.mP)) (.seq (.reg [f 6 v1,g l0,u (.ca N.au 1 [] [.l 0]),f 7 v1,g l0,u (.ca N.au 1 [] [.l 0]),f 6 v3,u (.st l0 l4 1 []),f 7 v3,u (.st l0 l3 1 [])] [(4,0)]) (.seq (.reg [f 8 v3,u (.st l0 (.c (.nil)) 1 [(8,1)])] []) (.seq (.seq (.reg [f 8 v1,w 9 (.ld l0 1 false),w 10 (.ln l0),w 11 (.mv (.i 0))] []) (.blk 2 K.mQ)) (.seq (.reg [h 9 v3,u (.st v2 l0 9 [])] []) .ret)))))))))),res:=[(2,some (9,true))]}
end Go.Ev.K
namespace Go.Ev
class dv [Lib]:Prop where
 fF:Lib.fs N.aZ=some K.aZ
 bf:Lib.fs N.ai=some K.ai
 bw:Lib.fs N.aj=some K.aj
 ir:Lib.fs N.b8=some K.b8
 bE:Lib.fs N.aq=some K.aq
 iu:Lib.fs N.b9=some K.b9
 iv:Lib.fs N.cz=some K.cz
 bk:Lib.fs N.ax=some K.ax
 bL:Lib.fs N.aA=some K.aA
 gu:Lib.fs N.bP=some K.bP
 dX:Lib.fs N.aP=some K.aP
namespace K
variable [Lib] [dv]
theorem fF:Lib.fs N.aZ=some K.aZ:=dv.fF
theorem bf:Lib.fs N.ai=some K.ai:=dv.bf
theorem bw:Lib.fs N.aj=some K.aj:=dv.bw
theorem ir:Lib.fs N.b8=some K.b8:=dv.ir
theorem bE:Lib.fs N.aq=some K.aq:=dv.bE
theorem iu:Lib.fs N.b9=some K.b9:=dv.iu
theorem iv:Lib.fs N.cz=some K.cz:=dv.iv
theorem bk:Lib.fs N.ax=some K.ax:=dv.bk
theorem bL:Lib.fs N.aA=some K.aA:=dv.bL
theorem gu:Lib.fs N.bP=some K.bP:=dv.gu
theorem dX:Lib.fs N.aP=some K.aP:=dv.dX
end K
end Go.Ev
namespace Go.Ev
open Go
variable [Lib] [bz] [bD] [cZ] [c7] [dZ] [cL] [cI] [dE] [dt] [bM] [bZ] [cW] [cX] [dO] [dF] [dM] [dr] [dv]
structure Rdr where
 pl:List Int
 per:Int
 miss:Int
 skew:Int
instance : Dat Rdr := ⟨⟨[], 0, 0, 0⟩⟩
abbrev Rdr.e(r:Rdr):T:= .agg [tL r.pl,tI r.per,tI r.miss,tI r.skew]
structure Wlk where
 place:Int
 kR:Int
 left:Int
instance : Dat Wlk := ⟨⟨0, 0, 0⟩⟩
abbrev Wlk.e(w:Wlk):T:= .agg [tI w.place,tI w.kR,tI w.left]
structure Tru where
 iT:bV
 time:Int
 people:List Wlk
 tags:List Int
 readers:List Rdr
 numbers:List Int
 looked:List Int
 missed:List (List Int)
abbrev tLL(l:List (List Int)):T:= .sl (l.map fun x=> .sl (x.map (T.int .i64)))
abbrev Tru.cs(x:Tru):List T:=[.sl (x.iT.places.map Place.e),.sl (x.iT.roads.map Road.e),tI x.time,.sl (x.people.map Wlk.e),tL x.tags,.sl (x.readers.map Rdr.e),tL x.numbers,tL x.looked,tLL x.missed]
abbrev Tru.e(x:Tru):T:= .agg x.cs
structure Tru.sz(x:Tru):Prop where
 a:x.iT.places.length≤1000000
 b:x.iT.roads.length≤1000000
 c:x.people.length≤1000000
 d:x.tags.length≤1000000
 r:x.readers.length≤1000000
 r2:∀y∈x.readers,y.pl.length≤1000000
 n:x.numbers.length≤1000000
 l:x.looked.length≤1000000
 m:x.missed.length≤1000000
 m2:∀y∈x.missed,y.length≤1000000
@[go_sem] theorem Fa (l : List Rdr) : bu 4 (l.map Rdr.e) = true := eO 4 _ (fun _ => rfl) l
@[go_sem] theorem Pn (l : List Rdr) : gP 4 (l.map Rdr.e) = true := by cases l <;> rfl
@[go_sem] theorem Fb (l : List Wlk) : bu 3 (l.map Wlk.e) = true := eO 3 _ (fun _ => rfl) l
@[go_sem] theorem Po (l : List Wlk) : gP 3 (l.map Wlk.e) = true := by cases l <;> rfl
@[go_sem] theorem Jc (l : List (List Int)) : bu 1 (l.map fun x => T.sl (x.map (T.int .i64))) = true := eO 1 _ (fun _ => rfl) l
@[go_sem] theorem RV (l : List (List Int)) : gP 1 (l.map fun x => T.sl (x.map (T.int .i64))) = true := by cases l <;> rfl
structure jP(n:Int)(r:Rdr):Prop where
 s:vg r.pl n=true
 l:r.pl.length≤64
 l1:1≤r.pl.length
 p1:1≤r.per
 p2:r.per≤30
 m1:0≤r.miss
 m2:r.miss≤2
 k1:0≤r.skew
 k2:r.skew≤5
theorem AJ{p n:Int}(h0:0≤p)(h1:p<n):vg [p] n=true:=by
 unfold vg
 simp only[List.length_singleton,List.all_eq_true,List.mem_range,decide_eq_true_eq]
 intro j hj
 obtain rfl:j=0:=by omega
 exact⟨h0,h1,fun h=>by omega⟩
theorem rQ(l:List Rdr)(hl:l.length≤4294967296)(f:Nat)(bs:List (List T))(p:Rdr→Bool)(h:∀x,x∈l→aX 0 f (.t x.e::dJ bs.length) (aN bs)=some (B (p x),aN bs)):
 aX 0 N.ax [.t (.sl (l.map Rdr.e)),.fn f (dJ bs.length)] (aN bs)=
 some (I (match (List.range l.length).find? (fun j=>p (nth l j))with | some j=>(j:Int) | none=> -1),aN bs):=by
 refine aO K.bk rfl ?_
 have loop:∀a b:D,exS aX K.b5 ⟨[.t (.sl (l.map Rdr.e)),.fn f (dJ bs.length),a,b,I l.length,I 0],aN bs⟩=
  some (match (List.range l.length).find? (fun j=>p (nth l j))with
   | some j=>(.ret,⟨[.t (.sl (l.map Rdr.e)),.fn f (dJ bs.length),I j,I j,I l.length,I j],aN bs⟩)
   | none=>(.exit 0,⟨[.t (.sl (l.map Rdr.e)),.fn f (dJ bs.length),.und,.und,I l.length,I l.length],aN bs⟩)):=by
  intro a b
  refine gT (fun j=>⟨[.t (.sl (l.map Rdr.e)),.fn f (dJ bs.length),.und,.und,I l.length,I j],aN bs⟩) l.length (fun j=>p (nth l j)) _ _ rfl ?_ ?_ ?_ (by simp)
  · intro j hj hp
    have hc:=gU (h _ (bA hj)) rfl
    simp (disch:=omega) only[go_sem,K.aT,↓reduceIte,hc,hp]
  · intro j hj hp
    have hc:=gU (h _ (bA hj)) rfl
    simp (disch:=omega) only[go_sem,K.aT,↓reduceIte,hp,hc]
    simp
  · simp (disch:=omega) only[go_sem,K.aT,↓reduceIte]
 simp (disch:=omega) only[go_sem,K.ax,↓reduceIte,loop]
 cases hf:(List.range l.length).find? (fun j=>p (nth l j))with
 | some j=>simp (disch:=omega) only[go_sem,↓reduceIte]
 | none=>simp (disch:=omega) only[go_sem,↓reduceIte]
theorem ox(l:List Rdr)(hl:l.length≤4294967296)(f:Nat)(bs:List (List T))(p:Rdr→Bool)(h:∀x,x∈l→aX 0 f (.t x.e::dJ bs.length) (aN bs)=some (B (p x),aN bs)):
 aX 0 N.ai [.t (.sl (l.map Rdr.e)),.fn f (dJ bs.length)] (aN bs)=some (B (l.any p),aN bs):=by
 refine aO K.bf rfl ?_
 have h:=rQ l hl f bs p h
 have hc:=nv aX bs f _ 0 (.sl (l.map Rdr.e)) h rfl
 have e:=wY (l:=l) (p:=p)
 cases hf:(List.range l.length).find? (fun j=>p (nth l j))with
 | some j=>rw[hf]at e hc;simp (disch:=omega) only[go_sem,K.ai,↓reduceIte,←e,hc]
 | none=>rw[hf]at e hc;simp (disch:=omega) only[go_sem,K.ai,↓reduceIte,←e,hc,Option.isSome_none]
def Fc(n:Int)(r:Rdr):Bool:= !(!decide (r.pl.length=0)&&vg r.pl n&&decide (1≤r.per∧r.per≤600)&&decide (0≤r.miss∧r.miss≤10)&&decide (0≤r.skew∧r.skew≤60))
def tK(m:bV)(l:List Rdr):Bool:=decide (l.length≤32)&& !(l.any (Fc m.places.length))
theorem Jd(m:bV)(hp:m.places.length≤1000000)(r:Rdr)(hl:r.pl.length≤1000000):aX 0 N.aZ [.t r.e,.bp 0 0] [.box (aH m)]=some (B (Fc m.places.length r),[.box (aH m)]):=by
 refine aO K.fF rfl ?_
 have ri:=tz r.pl 0 ((m.places.length:Int)-1) (by omega)
 rw[HY]at ri
 have i1:=eP r.per 1 600
 have i2:=eP r.miss 0 10
 have i3:=eP r.skew 0 60
 unfold Fc
 generalize vg r.pl m.places.length=b0 at*
 obtain⟨pl,per,miss,skew⟩:=r
 obtain⟨places,roads⟩:=m
 simp only[aH]at*
 generalize decide (1≤per∧per≤600)=b1 at*
 generalize decide (0≤miss∧miss≤10)=b2 at*
 generalize decide (0≤skew∧skew≤60)=b3 at*
 by_cases c:pl.length=0
 · rw[c]
   simp (disch:=omega) only[go_sem,K.aZ,↓reduceIte,c,decide_true,Bool.not_true,Bool.false_and,Bool.not_false,Nat.reduceAdd,Nat.reduceSub]
 · cases b0<;>cases b1<;>cases b2<;>cases b3
   all_goals simp (disch:=omega) only[go_sem,K.aZ,↓reduceIte,c,ri,i1,i2,i3,decide_false,Bool.not_true,Bool.not_false,Bool.false_and,Bool.true_and,Bool.and_true,Bool.and_false,Bool.and_self,Nat.reduceAdd,Nat.reduceSub]
theorem Je(m:bV)(hp:m.places.length≤1000000)(l:List Rdr)(hl:l.length≤1000000)(h2:∀y∈l,y.pl.length≤1000000):aX 0 N.ai [.t (.sl (l.map Rdr.e)),.fn N.aZ [.bp 0 0]] [.box (aH m)]=some (B (l.any (Fc m.places.length)),[.box (aH m)]):=
 ox l (by omega) N.aZ [[.sl (m.places.map Place.e),.sl (m.roads.map Road.e)]] (Fc m.places.length) (fun x hx=>Jd m hp x (h2 x hx))
theorem qO{m:bV}(hm:m.ok)(l:List Rdr)(hl:l.length≤1000000)(h2:∀y∈l,y.pl.length≤1000000):aX 0 N.bH [.t m.e,.t (.sl (l.map Rdr.e))] []=some (B (tK m l),[]):=by
 refine aO K.gr rfl ?_
 have cf:=Je m (by have:=hm.np;omega) l hl h2
 have pv:=n9 hm
 unfold tK
 generalize l.any (Fc m.places.length)=b at*
 obtain⟨places,roads⟩:=m
 simp only[aH]at*
 by_cases c:l.length≤32
 · simp (disch:=omega) only[go_sem,K.bH,↓reduceIte,pv,cf,c,decide_true,Bool.true_and,Nat.reduceAdd,Nat.reduceSub]
 · simp (disch:=omega) only[go_sem,K.bH,↓reduceIte,pv,c,decide_false,Bool.false_and,Nat.reduceAdd,Nat.reduceSub]
theorem qP(l:List Int)(hl:l.length≤1000000):aX 0 N.cN [.t (tL l)] []=some (B (fA l),[]):=by
 refine aO K.iW rfl ?_
 have v:=Ax l
 have s:=Ay l hl
 have r:=tz (eZ l) 1 65535 (by rw[eu];omega)
 rw[xU]at r
 simp (disch:=omega) only[go_sem,K.cN,↓reduceIte,v,s,r,Nat.reduceAdd,Nat.reduceSub]
theorem iw(l:List Road)(hl:l.length≤1000000):aX 0 N.aB [.t (.sl (l.map Road.e))] []=some (.t (.sl (l.map Road.e)),[]):=by
 refine aO K.cD rfl ?_
 by_cases h0:l=[]
 · subst h0
   simp only[List.map_nil]
   simp (disch:=omega) only[go_sem,K.aB,↓reduceIte,List.map_nil,Nat.reduceAdd,Nat.reduceSub]
 · have e:=fun H=>kF H (l.map Road.e) (by simpa using h0)
   simp (disch:=omega) only[go_sem,K.aB,↓reduceIte,e,Nat.reduceAdd,Nat.reduceSub]
theorem jQ(l:List Wlk)(hl:l.length≤1000000):aX 0 N.aj [.t (.sl (l.map Wlk.e))] []=some (.t (.sl (l.map Wlk.e)),[]):=by
 refine aO K.bw rfl ?_
 by_cases h0:l=[]
 · subst h0
   simp only[List.map_nil]
   simp (disch:=omega) only[go_sem,K.aj,↓reduceIte,List.map_nil,Nat.reduceAdd,Nat.reduceSub]
 · have e:=fun H=>kF H (l.map Wlk.e) (by simpa using h0)
   simp (disch:=omega) only[go_sem,K.aj,↓reduceIte,e,Nat.reduceAdd,Nat.reduceSub]
theorem vz(l:List Wlk)(hl:l.length≤1000000):aX 1 N.aj [.t (.sl (l.map Wlk.e))] []=some (.ref 0 0 l.length,[.arr 3 false 0 ((l.map Wlk.e).map .t)]):=by
 refine aO K.bw rfl ?_
 by_cases h0:l=[]
 · subst h0
   simp only[List.map_nil]
   simp (disch:=omega) only[go_sem,K.aj,↓reduceIte,List.map_nil,List.length_nil,Nat.reduceAdd,Nat.reduceSub]
 · have e:=fun H=>kF H (l.map Wlk.e) (by simpa using h0)
   simp (disch:=omega) only[go_sem,K.aj,↓reduceIte,e,Nat.reduceAdd,Nat.reduceSub]
abbrev az:List D:=[.nil,.nil,I 0,.nil,.nil,.nil,.nil,.nil,.nil]
abbrev LLe(x:List Int):T:= .sl (x.map (T.int .i64))
theorem vA(x:Tru)(h:x.sz):aX 0 N.df [.t x.e] []=some (.t x.e,[]):=by
 refine aO K.iX rfl ?_
 obtain⟨a,b,c,d,r,r2,n,l,m,m2⟩:=h
 obtain⟨⟨places,roads⟩,time,people,tags,readers,numbers,looked,missed⟩:=x
 simp only at*
 have c1:=jh places a
 have c2:=iw roads b
 have c3:=jQ people c
 have c4:=cy tags d
 have c5:=cy numbers n
 have c6:=cy looked l
 simp only[tL]at c4 c5 c6
 have tk1:readers.take readers.length=readers:=List.take_length
 have tk2:missed.take missed.length=missed:=List.take_length
 have lp1:∀z0 z4 z5 z9_ z10 z11:D,exS aX K.kr ⟨[z0,.bp 0 0,.bp 1 0,.bp 2 0,z4,z5,.t (.sl (readers.map Rdr.e)),I readers.length,I 0,z9_,z10,z11],[.box ((Tru.cs ⟨⟨places,roads⟩,time,people,tags,readers,numbers,looked,missed⟩).map .t),.box az,.box [.t (.sl (places.map Place.e)),.t (.sl (roads.map Road.e)),I time,.t (.sl (people.map Wlk.e)),.t (tL tags),.ref 5 0 0,.t (tL numbers),.t (tL looked),.t (tLL missed)],.arr 4 false 0 [],.arr 1 false 0 [],.arr 4 false 0 []]⟩=
  some (.exit 0,⟨[.und,.bp 0 0,.bp 1 0,.bp 2 0,.und,.und,.t (.sl (readers.map Rdr.e)),I readers.length,I readers.length,.und,.und,.und],[.box ((Tru.cs ⟨⟨places,roads⟩,time,people,tags,readers,numbers,looked,missed⟩).map .t),.box az,.box [.t (.sl (places.map Place.e)),.t (.sl (roads.map Road.e)),I time,.t (.sl (people.map Wlk.e)),.t (tL tags),.ref 5 0 readers.length,.t (tL numbers),.t (tL looked),.t (tLL missed)],.arr 4 false 0 [],.arr 1 false 0 [],.arr 4 false 0 ((readers.map Rdr.e).map .t)]⟩):=by
  intro z0 z4 z5 z9_ z10 z11
  refine fy (fun j=>⟨[.und,.bp 0 0,.bp 1 0,.bp 2 0,.und,.und,.t (.sl (readers.map Rdr.e)),I readers.length,I j,.und,.und,.und],[.box ((Tru.cs ⟨⟨places,roads⟩,time,people,tags,readers,numbers,looked,missed⟩).map .t),.box az,.box [.t (.sl (places.map Place.e)),.t (.sl (roads.map Road.e)),I time,.t (.sl (people.map Wlk.e)),.t (tL tags),.ref 5 0 (readers.take j).length,.t (tL numbers),.t (tL looked),.t (tLL missed)],.arr 4 false 0 [],.arr 1 false 0 [],.arr 4 false 0 (((readers.take j).map Rdr.e).map .t)]⟩) readers.length rfl ?_ ?_ (by simp)
  · intro j hj
    have ex:(readers.map Rdr.e)[j]?=some (nth readers j).e:=aU _ hj
    have cl:=cy (nth readers j).pl (r2 _ (bA hj))
    have tk:=jF hj
    have tl:(readers.take j).length=j:=by rw[List.length_take];omega
    have tl2:(readers.take (j+1)).length=j+1:=by rw[List.length_take];omega
    rw[tl2,tk]
    generalize readers.take j=q at*
    generalize nth readers j=y at*
    obtain⟨pl,per,miss,skew⟩:=y
    simp only[Tru.cs,az,List.map_cons,List.map_nil,tL]at*
    simp (disch:=omega) only[go_sem,K.gJ,↓reduceIte,ex,cl,tl,List.map_append,List.map_cons,List.map_nil,Nat.reduceAdd,Nat.reduceSub]
  · rw[tk1]
    simp only[Tru.cs,az,List.map_cons,List.map_nil]
    simp (disch:=omega) only[go_sem,K.gJ,↓reduceIte,Nat.reduceAdd,Nat.reduceSub]
 have lp2:∀z0 z1 z4 z5 z6 z7 z8:D,∀X:List D,exS aX K.kt ⟨[z0,z1,.bp 1 0,.bp 2 0,z4,z5,z6,z7,z8,.t (tLL missed),I missed.length,I 0],[.box ((Tru.cs ⟨⟨places,roads⟩,time,people,tags,readers,numbers,looked,missed⟩).map .t),.box az,.box [.t (.sl (places.map Place.e)),.t (.sl (roads.map Road.e)),I time,.t (.sl (people.map Wlk.e)),.t (tL tags),.ref 5 0 readers.length,.t (tL numbers),.t (tL looked),.ref 6 0 0],.arr 4 false 0 [],.arr 1 false 0 [],.arr 4 false 0 ((readers.map Rdr.e).map .t),.arr 1 false 0 []]⟩=
  some (.exit 2,⟨[.und,.und,.bp 1 0,.bp 2 0,.und,.und,.und,.und,.und,.t (tLL missed),I missed.length,I missed.length],[.box ((Tru.cs ⟨⟨places,roads⟩,time,people,tags,readers,numbers,looked,missed⟩).map .t),.box az,.box [.t (.sl (places.map Place.e)),.t (.sl (roads.map Road.e)),I time,.t (.sl (people.map Wlk.e)),.t (tL tags),.ref 5 0 readers.length,.t (tL numbers),.t (tL looked),.ref 6 0 missed.length],.arr 4 false 0 [],.arr 1 false 0 [],.arr 4 false 0 ((readers.map Rdr.e).map .t),.arr 1 false 0 ((missed.map LLe).map .t)]⟩):=by
  intro z0 z1 z4 z5 z6 z7 z8 X
  refine fy (fun j=>⟨[.und,.und,.bp 1 0,.bp 2 0,.und,.und,.und,.und,.und,.t (tLL missed),I missed.length,I j],[.box ((Tru.cs ⟨⟨places,roads⟩,time,people,tags,readers,numbers,looked,missed⟩).map .t),.box az,.box [.t (.sl (places.map Place.e)),.t (.sl (roads.map Road.e)),I time,.t (.sl (people.map Wlk.e)),.t (tL tags),.ref 5 0 readers.length,.t (tL numbers),.t (tL looked),.ref 6 0 (missed.take j).length],.arr 4 false 0 [],.arr 1 false 0 [],.arr 4 false 0 ((readers.map Rdr.e).map .t),.arr 1 false 0 (((missed.take j).map LLe).map .t)]⟩) missed.length rfl ?_ ?_ (by simp)
  · intro j hj
    have ex:(missed.map fun x=>T.sl (x.map (T.int .i64)))[j]?=some (LLe (nth missed j)):=aU _ hj
    have cl:=cy (nth missed j) (m2 _ (bA hj))
    have tk:=jF hj
    have tl:(missed.take j).length=j:=by rw[List.length_take];omega
    have tl2:(missed.take (j+1)).length=j+1:=by rw[List.length_take];omega
    rw[tl2,tk]
    generalize missed.take j=q at*
    generalize nth missed j=y at*
    simp only[Tru.cs,az,List.map_cons,List.map_nil,tL,LLe]at*
    simp (disch:=omega) only[go_sem,K.gK,↓reduceIte,ex,cl,tl,List.map_append,List.map_cons,List.map_nil,Nat.reduceAdd,Nat.reduceSub]
  · rw[tk2]
    simp only[Tru.cs,az,List.map_cons,List.map_nil]
    simp (disch:=omega) only[go_sem,K.gK,↓reduceIte,Nat.reduceAdd,Nat.reduceSub]
 have lp2:=fun z0 z1 z4 z5 z6 z7 z8=>lp2 z0 z1 z4 z5 z6 z7 z8 []
 simp only[Tru.e,Tru.cs,az,List.map_cons,List.map_nil,LLe,tL]at*
 simp (disch:=omega) only[go_sem,K.df,↓reduceIte,c1,c2,c3,c4,c5,c6,lp1,lp2,Nat.reduceAdd,Nat.reduceSub]
def fW(m:bV)(r p:Int):Int:=
 if 0≤r∧r<m.roads.length then
  if(nth m.roads r.toNat).frm=p then iR m r.toNat false 6 9 12
  else if(nth m.roads r.toNat).to=p then iR m r.toNat true 6 9 12 else -1
 else -1
theorem qQ{m:bV}(h:m.ok)(r p:Int): -1≤fW m r p∧fW m r p≤1000012:=by
 unfold fW
 by_cases c:0≤r∧r<m.roads.length
 · rw[if_pos c]
   split
   · exact wK h _ (by omega) _
   · split
     · exact wK h _ (by omega) _
     · omega
 · rw[if_neg c];omega
def Wlk.ok(m:bV)(w:Wlk):Prop:=(0≤w.place∧w.place<m.places.length)∧(w.kR= -1∧w.left=0∨0≤w.kR∧0≤fW m w.kR w.place∧1≤w.left∧w.left≤2147483648)
structure Tru.ok(x:Tru):Prop where
 m:x.iT.ok
 m1:1≤x.iT.places.length
 rl:x.readers.length≤3
 r:∀r∈x.readers,jP x.iT.places.length r
 n1:1≤x.people.length
 n3:x.people.length≤3
 w:∀w∈x.people,w.ok x.iT
 tl:x.tags.length=x.people.length
 tp:fA x.tags=true
 t0:0≤x.time
 t1:x.time≤2147483648
 nl:x.numbers.length=x.readers.length
 ll:x.looked.length=x.readers.length
 ml:x.missed.length=x.readers.length
 nb:∀j,j<x.readers.length→(-1≤nth x.numbers j∧nth x.numbers j≤65535)∧(-1≤nth x.looked j∧nth x.looked j≤x.time)∧(nth x.looked j= -1↔nth x.numbers j= -1)
 m2:∀j,j<x.readers.length→(nth x.missed j).length=x.people.length
 mb:∀j,j<x.readers.length→∀i,i<x.people.length→0≤nth (nth x.missed j) i∧nth (nth x.missed j) i≤(nth x.readers j).miss
theorem Tru.ok.sz{x:Tru}(h:x.ok):x.sz:=by
 have:=h.m.np
 have:=h.m.nr
 have:=h.rl
 have:=h.n3
 have:=h.tl
 have:=h.nl
 have:=h.ll
 have:=h.ml
 refine⟨by omega,by omega,by omega,by omega,by omega,fun y hy=>?_,by omega,by omega,by omega,fun y hy=>?_⟩
 · have:=(h.r y hy).l;omega
 · obtain⟨j,hj,rfl⟩:=List.getElem_of_mem hy
   have:=h.m2 j (by omega)
   rw[eH (List.getElem?_eq_getElem hj)]at this
   omega
theorem jP.odd{n:Nat}{r:Rdr}(h:jP n r):Fc n r=false:=by
 obtain⟨s,l,l1,p1,p2,m1,m2,k1,k2⟩:=h
 unfold Fc
 rw[s,decide_eq_false (by omega),decide_eq_true (by omega),decide_eq_true (by omega),decide_eq_true (by omega)]
 rfl
theorem Tru.ok.Wa{x:Tru}(h:x.ok):tK x.iT x.readers=true:=by
 have:=h.rl
 unfold tK
 rw[decide_eq_true (by omega),Bool.true_and,Bool.not_eq_true',List.any_eq_false]
 intro r hr
 rw[(h.r r hr).odd]
 decide
theorem p8(l:List Wlk)(hl:l.length≤4294967296)(f:Nat)(bs:List (List T))(p:Wlk→Bool)(h:∀x,x∈l→aX 0 f (.t x.e::dJ bs.length) (aN bs)=some (B (p x),aN bs)):
 aX 0 N.aA [.t (.sl (l.map Wlk.e)),.fn f (dJ bs.length)] (aN bs)=
 some (I (match (List.range l.length).find? (fun j=>p (nth l j))with | some j=>(j:Int) | none=> -1),aN bs):=by
 refine aO K.bL rfl ?_
 have loop:∀a b:D,exS aX K.cE ⟨[.t (.sl (l.map Wlk.e)),.fn f (dJ bs.length),a,b,I l.length,I 0],aN bs⟩=
  some (match (List.range l.length).find? (fun j=>p (nth l j))with
   | some j=>(.ret,⟨[.t (.sl (l.map Wlk.e)),.fn f (dJ bs.length),I j,I j,I l.length,I j],aN bs⟩)
   | none=>(.exit 0,⟨[.t (.sl (l.map Wlk.e)),.fn f (dJ bs.length),.und,.und,I l.length,I l.length],aN bs⟩)):=by
  intro a b
  refine gT (fun j=>⟨[.t (.sl (l.map Wlk.e)),.fn f (dJ bs.length),.und,.und,I l.length,I j],aN bs⟩) l.length (fun j=>p (nth l j)) _ _ rfl ?_ ?_ ?_ (by simp)
  · intro j hj hp
    have hc:=gU (h _ (bA hj)) rfl
    simp (disch:=omega) only[go_sem,K.a7,↓reduceIte,hc,hp]
  · intro j hj hp
    have hc:=gU (h _ (bA hj)) rfl
    simp (disch:=omega) only[go_sem,K.a7,↓reduceIte,hp,hc]
    simp
  · simp (disch:=omega) only[go_sem,K.a7,↓reduceIte]
 simp (disch:=omega) only[go_sem,K.aA,↓reduceIte,loop]
 cases hf:(List.range l.length).find? (fun j=>p (nth l j))with
 | some j=>simp (disch:=omega) only[go_sem,↓reduceIte]
 | none=>simp (disch:=omega) only[go_sem,↓reduceIte]
theorem nC(l:List Wlk)(hl:l.length≤4294967296)(f:Nat)(bs:List (List T))(p:Wlk→Bool)(h:∀x,x∈l→aX 0 f (.t x.e::dJ bs.length) (aN bs)=some (B (p x),aN bs)):
 aX 0 N.aq [.t (.sl (l.map Wlk.e)),.fn f (dJ bs.length)] (aN bs)=some (B (l.any p),aN bs):=by
 refine aO K.bE rfl ?_
 have h:=p8 l hl f bs p h
 have hc:=nv aX bs f _ 0 (.sl (l.map Wlk.e)) h rfl
 have e:=wY (l:=l) (p:=p)
 cases hf:(List.range l.length).find? (fun j=>p (nth l j))with
 | some j=>rw[hf]at e hc;simp (disch:=omega) only[go_sem,K.aq,↓reduceIte,←e,hc]
 | none=>rw[hf]at e hc;simp (disch:=omega) only[go_sem,K.aq,↓reduceIte,←e,hc,Option.isSome_none]
theorem tM{m:bV}(h:m.ok)(r p:Int):aX 0 N.bO [.t m.e,I r,I p] []=some (I (fW m r p),[]):=by
 refine aO K.iY rfl ?_
 have nr:=h.nr
 have li:=eP r 0 ((m.roads.length:Int)-1)
 unfold fW
 by_cases c0:0≤r
 · obtain⟨k,rfl⟩:=Int.eq_ofNat_of_zero_le c0
   by_cases c1:k<m.roads.length
   · rw[if_pos ⟨c0,by omega⟩]
     rw[decide_eq_true (by omega)]at li
     have e:Int.toNat (k:Int)=k:=rfl
     simp only[Int.ofNat_eq_natCast,e]at*
     have ex:(m.roads.map Road.e)[k]?=some (nth m.roads k).e:=aU _ c1
     have t1:=wS h k c1 false
     have t2:=wS h k c1 true
     generalize iR m k false 6 9 12=a at*
     generalize iR m k true 6 9 12=b at*
     generalize nth m.roads k=q at*
     obtain⟨places,roads⟩:=m
     obtain⟨q1,q2,q3,q4,q5,q6,q7,q8,q9,q10⟩:=q
     simp only at*
     by_cases d1:p=q1
     · have d1':q1=p:=d1.symm
       rw[if_pos d1']
       clear d1'
       subst d1
       simp (disch:=omega) only[go_sem,K.bO,↓reduceIte,li,ex,t1,Nat.reduceAdd,Nat.reduceSub]
     · have d1':¬q1=p:=fun e=>d1 e.symm
       by_cases d2:p=q2
       · have d2':q2=p:=d2.symm
         rw[if_neg d1',if_pos d2']
         clear d1' d2'
         subst d2
         simp (disch:=omega) only[go_sem,K.bO,↓reduceIte,li,ex,t2,d1,Nat.reduceAdd,Nat.reduceSub]
       · have d2':¬q2=p:=fun e=>d2 e.symm
         simp (disch:=omega) only[go_sem,K.bO,↓reduceIte,li,ex,d1,d2,d1',d2',Nat.reduceAdd,Nat.reduceSub]
   · rw[if_neg (by omega)]
     rw[decide_eq_false (by omega)]at li
     obtain⟨places,roads⟩:=m
     simp only[Int.ofNat_eq_natCast]at*
     simp (disch:=omega) only[go_sem,K.bO,↓reduceIte,li,Nat.reduceAdd,Nat.reduceSub]
 · rw[if_neg (by omega)]
   rw[decide_eq_false (by omega)]at li
   obtain⟨places,roads⟩:=m
   simp only at*
   simp (disch:=omega) only[go_sem,K.bO,↓reduceIte,li,Nat.reduceAdd,Nat.reduceSub]
theorem xY{m:bV}(h:m.ok){w:Wlk}(hw:w.ok m):aX 0 N.cz [.t m.e,.t w.e] []=some (B true,[]):=by
 refine aO K.iv rfl ?_
 have np:=h.np
 obtain⟨p1,p2,p3⟩:=w
 obtain⟨⟨w0,w1⟩,w2⟩:=hw
 have l1:=eP p1 0 ((m.places.length:Int)-1)
 have l2:=eP p3 1 2147483648
 have lv:=tM h p2 p1
 simp only at*
 rw[decide_eq_true (by omega)]at l1
 generalize fW m p2 p1=v at*
 obtain⟨places,roads⟩:=m
 simp only at*
 rcases w2 with⟨w2,w3⟩ | ⟨w2,w3,w4,w5⟩
 · simp (disch:=omega) only[go_sem,K.cz,↓reduceIte,l1,w2,w3,Nat.reduceAdd,Nat.reduceSub]
 · rw[decide_eq_true (by omega)]at l2
   simp (disch:=omega) only[go_sem,K.cz,↓reduceIte,l1,lv,l2,Nat.reduceAdd,Nat.reduceSub]
theorem Pp{x:Tru}(h:x.iT.ok){w:Wlk}(hw:w.ok x.iT):aX 0 N.b9 [.t w.e,.bp 0 0] [.box (x.cs.map .t)]=some (B false,[.box (x.cs.map .t)]):=by
 refine aO K.iu rfl ?_
 have wk:=xY h hw
 obtain⟨⟨places,roads⟩,time,people,tags,readers,numbers,looked,missed⟩:=x
 obtain⟨p1,p2,p3⟩:=w
 simp only[Tru.cs,List.map_cons,List.map_nil,tL]at*
 simp (disch:=omega) only[go_sem,K.b9,↓reduceIte,wk,Nat.reduceAdd,Nat.reduceSub]
theorem Pq{x:Tru}(h:x.sz)(k:Nat)(hk:k<x.readers.length)(c:Int):aX 0 N.b8 [I c,.bp 0 0,.bp 1 0] [.box (x.cs.map .t),.box [I k]]=some (B (!decide (0≤c∧c≤(nth x.readers k).miss)),[.box (x.cs.map .t),.box [I k]]):=by
 refine aO K.ir rfl ?_
 have:=h.r
 have li:=eP c 0 (nth x.readers k).miss
 have er:(x.readers.map Rdr.e)[k]?=some (nth x.readers k).e:=aU _ hk
 generalize nth x.readers k=y at*
 obtain⟨⟨places,roads⟩,time,people,tags,readers,numbers,looked,missed⟩:=x
 obtain⟨r1,r2,r3,r4⟩:=y
 simp only[Tru.cs,List.map_cons,List.map_nil,tL]at*
 simp (disch:=omega) only[go_sem,K.b8,↓reduceIte,er,li,Nat.reduceAdd,Nat.reduceSub]
theorem gz{x:Tru}(h:x.ok):aX 0 N.cY [.t x.e] []=some (B true,[]):=by
 refine aO K.jN rfl ?_
 have sz:=h.sz
 have sv:=qO h.m x.readers sz.r sz.r2
 rw[h.Wa]at sv
 have tg:=qP x.tags sz.d
 rw[h.tp]at tg
 have cf2:aX 0 N.aq [.t (.sl (x.people.map Wlk.e)),.fn N.b9 [.bp 0 0]] [.box (x.cs.map .t)]=some (B (x.people.any fun _=>false),[.box (x.cs.map .t)]):=nC x.people (by have:=sz.c;omega) N.b9 [x.cs] (fun _=>false) (fun w hw=>Pp h.m (h.w w hw))
 have cf1:∀(k:Nat) (hk:k<x.readers.length),aX 0 N.aF [.t (tL (nth x.missed k)),.fn N.b8 [.bp 0 0,.bp 1 0]] [.box (x.cs.map .t),.box [I k]]=some (B ((nth x.missed k).any fun c=> !decide (0≤c∧c≤(nth x.readers k).miss)),[.box (x.cs.map .t),.box [I k]]):=fun(k:Nat) (hk:k<x.readers.length)=>kj (nth x.missed k) (by have:=h.m2 k hk;have:=h.n3;omega) N.b8 [x.cs,[tI k]] (fun c=> !decide (0≤c∧c≤(nth x.readers k).miss)) (fun c _=>Pq sz k hk c)
 have cf0:∀(k:Nat) (hk:k<x.readers.length),(nth x.missed k).any (fun c=> !decide (0≤c∧c≤(nth x.readers k).miss))=false:=by
  intro k hk
  rw[List.any_eq_false]
  intro c hc
  obtain⟨i,hi,rfl⟩:=List.getElem_of_mem hc
  have:=h.mb k hk i (by have:=h.m2 k hk;omega)
  rw[eH (List.getElem?_eq_getElem hi)]at this
  rw[decide_eq_true this];decide
 have li1:=eP x.people.length 1 12
 have li2:=eP x.time 0 2147483648
 obtain⟨hm,hm1,hrl,hr,n1,n3,hw,tl,tp,t0,t1,nl,ll,ml,nb,m2,mb⟩:=h
 rw[decide_eq_true (by omega)]at li1 li2
 have af:x.people.any (fun _=>false)=false:=by simp
 rw[af]at cf2
 have lp1:∀z0 z2 z4 z5:D,exS aX K.lg ⟨[z0,.bp 0 0,z2,I x.people.length,z4,z5,I x.readers.length,I 0],[.box (x.cs.map .t)]⟩=
  some (.exit 0,⟨[.und,.bp 0 0,.und,I x.people.length,.und,.und,I x.readers.length,I x.readers.length],[.box (x.cs.map .t)]⟩):=by
  intro z0 z2 z4 z5
  refine fy (fun k=>⟨[.und,.bp 0 0,.und,I x.people.length,.und,.und,I x.readers.length,I k],[.box (x.cs.map .t)]⟩) x.readers.length rfl ?_ ?_ (by simp)
  · intro k hk
    have nbk:=nb k hk
    have m2k:=m2 k hk
    have cf1:=cf1 k hk
    rw[cf0 k hk]at cf1
    have ek:(x.missed.map fun x=>T.sl (x.map (T.int .i64)))[k]?=some (LLe (nth x.missed k)):=aU _ (by omega)
    have en:(x.numbers.map (T.int .i64))[k]?=some (tI (nth x.numbers k)):=aU _ (by omega)
    have el:(x.looked.map (T.int .i64))[k]?=some (tI (nth x.looked k)):=aU _ (by omega)
    generalize nth x.missed k=mk at*
    generalize nth x.numbers k=nk at*
    generalize nth x.looked k=lk at*
    have i1:=eP nk (-1) 65535
    have i2:=eP lk (-1) x.time
    rw[decide_eq_true (by omega)]at i1 i2
    obtain⟨⟨places,roads⟩,time,people,tags,readers,numbers,looked,missed⟩:=x
    simp only[Tru.cs,List.map_cons,List.map_nil,tL,LLe]at*
    by_cases cc:nk= -1
    · have cl:lk= -1:=nbk.2.2.2 cc
      subst cc cl
      simp (disch:=omega) only[go_sem,K.fU,↓reduceIte,ek,en,el,m2k,i1,i2,cf1,Nat.reduceAdd,Nat.reduceSub]
    · have cl:¬lk= -1:=fun e=>cc (nbk.2.2.1 e)
      simp (disch:=omega) only[go_sem,K.fU,↓reduceIte,ek,en,el,m2k,i1,i2,cf1,cc,cl,Nat.reduceAdd,Nat.reduceSub]
  · obtain⟨⟨places,roads⟩,time,people,tags,readers,numbers,looked,missed⟩:=x
    simp only[Tru.cs,List.map_cons,List.map_nil,tL]at*
    simp (disch:=omega) only[go_sem,K.fU,↓reduceIte,Nat.reduceAdd,Nat.reduceSub]
 obtain⟨⟨places,roads⟩,time,people,tags,readers,numbers,looked,missed⟩:=x
 simp only[Tru.e,Tru.cs,List.map_cons,List.map_nil,tL]at*
 simp (disch:=omega) only[go_sem,K.cY,↓reduceIte,sv,tg,cf2,li1,li2,nl,ll,ml,tl,lp1,Nat.reduceAdd,Nat.reduceSub]
abbrev qR(s:Nat)(x:Tru):List D:=[.t (.sl (x.iT.places.map Place.e)),.t (.sl (x.iT.roads.map Road.e)),I x.time,.ref s 0 x.people.length,.t (tL x.tags),.ref (s+1) 0 x.readers.length,.t (tL x.numbers),.t (tL x.looked),.ref (s+2) 0 x.missed.length]
abbrev xZ(s:Nat)(x:Tru):D:= .agg (qR s x)
abbrev qS(x:Tru):ag:=[.arr 3 false 0 ((x.people.map Wlk.e).map .t),.arr 4 false 0 ((x.readers.map Rdr.e).map .t),.arr 1 false 0 ((x.missed.map LLe).map .t)]
theorem pR(x:Tru)(h:x.sz):aX 1 N.bP [.t x.e] []=some (xZ 0 x,qS x):=by
 refine aO K.gu rfl ?_
 obtain⟨a,b,c,d,r,r2,n,l,m,m2⟩:=h
 obtain⟨⟨places,roads⟩,time,people,tags,readers,numbers,looked,missed⟩:=x
 simp only at*
 have c1:=jh places a
 have c2:=iw roads b
 have c3:=vz people c
 have c4:=cy tags d
 have c5:=cy numbers n
 have c6:=cy looked l
 simp only[tL]at c4 c5 c6
 have tk1:readers.take readers.length=readers:=List.take_length
 have tk2:missed.take missed.length=missed:=List.take_length
 have lp1:∀z0 z4 z5 z9_ z10 z11:D,exS aX K.iL ⟨[z0,.bp 0 0,.bp 1 0,.bp 2 0,z4,z5,.t (.sl (readers.map Rdr.e)),I readers.length,I 0,z9_,z10,z11],[.box ((Tru.cs ⟨⟨places,roads⟩,time,people,tags,readers,numbers,looked,missed⟩).map .t),.box az,.box [.t (.sl (places.map Place.e)),.t (.sl (roads.map Road.e)),I time,.ref 5 0 people.length,.t (tL tags),.ref 6 0 0,.t (tL numbers),.t (tL looked),.t (tLL missed)],.arr 4 false 0 [],.arr 1 false 0 [],.arr 3 false 0 ((people.map Wlk.e).map .t),.arr 4 false 0 []]⟩=
  some (.exit 0,⟨[.und,.bp 0 0,.bp 1 0,.bp 2 0,.und,.und,.t (.sl (readers.map Rdr.e)),I readers.length,I readers.length,.und,.und,.und],[.box ((Tru.cs ⟨⟨places,roads⟩,time,people,tags,readers,numbers,looked,missed⟩).map .t),.box az,.box [.t (.sl (places.map Place.e)),.t (.sl (roads.map Road.e)),I time,.ref 5 0 people.length,.t (tL tags),.ref 6 0 readers.length,.t (tL numbers),.t (tL looked),.t (tLL missed)],.arr 4 false 0 [],.arr 1 false 0 [],.arr 3 false 0 ((people.map Wlk.e).map .t),.arr 4 false 0 ((readers.map Rdr.e).map .t)]⟩):=by
  intro z0 z4 z5 z9_ z10 z11
  refine fy (fun j=>⟨[.und,.bp 0 0,.bp 1 0,.bp 2 0,.und,.und,.t (.sl (readers.map Rdr.e)),I readers.length,I j,.und,.und,.und],[.box ((Tru.cs ⟨⟨places,roads⟩,time,people,tags,readers,numbers,looked,missed⟩).map .t),.box az,.box [.t (.sl (places.map Place.e)),.t (.sl (roads.map Road.e)),I time,.ref 5 0 people.length,.t (tL tags),.ref 6 0 (readers.take j).length,.t (tL numbers),.t (tL looked),.t (tLL missed)],.arr 4 false 0 [],.arr 1 false 0 [],.arr 3 false 0 ((people.map Wlk.e).map .t),.arr 4 false 0 (((readers.take j).map Rdr.e).map .t)]⟩) readers.length rfl ?_ ?_ (by simp)
  · intro j hj
    have ex:(readers.map Rdr.e)[j]?=some (nth readers j).e:=aU _ hj
    have cl:=cy (nth readers j).pl (r2 _ (bA hj))
    have tk:=jF hj
    have tl:(readers.take j).length=j:=by rw[List.length_take];omega
    have tl2:(readers.take (j+1)).length=j+1:=by rw[List.length_take];omega
    rw[tl2,tk]
    generalize readers.take j=q at*
    generalize nth readers j=y at*
    obtain⟨pl,per,miss,skew⟩:=y
    simp only[Tru.cs,az,List.map_cons,List.map_nil,tL]at*
    simp (disch:=omega) only[go_sem,K.fD,↓reduceIte,ex,cl,tl,List.map_append,List.map_cons,List.map_nil,Nat.reduceAdd,Nat.reduceSub]
  · rw[tk1]
    simp only[Tru.cs,az,List.map_cons,List.map_nil]
    simp (disch:=omega) only[go_sem,K.fD,↓reduceIte,Nat.reduceAdd,Nat.reduceSub]
 have lp2:∀z0 z1 z4 z5 z6 z7 z8:D,∀X:List D,exS aX K.iM ⟨[z0,z1,.bp 1 0,.bp 2 0,z4,z5,z6,z7,z8,.t (tLL missed),I missed.length,I 0],[.box ((Tru.cs ⟨⟨places,roads⟩,time,people,tags,readers,numbers,looked,missed⟩).map .t),.box az,.box [.t (.sl (places.map Place.e)),.t (.sl (roads.map Road.e)),I time,.ref 5 0 people.length,.t (tL tags),.ref 6 0 readers.length,.t (tL numbers),.t (tL looked),.ref 7 0 0],.arr 4 false 0 [],.arr 1 false 0 [],.arr 3 false 0 ((people.map Wlk.e).map .t),.arr 4 false 0 ((readers.map Rdr.e).map .t),.arr 1 false 0 []]⟩=
  some (.exit 2,⟨[.und,.und,.bp 1 0,.bp 2 0,.und,.und,.und,.und,.und,.t (tLL missed),I missed.length,I missed.length],[.box ((Tru.cs ⟨⟨places,roads⟩,time,people,tags,readers,numbers,looked,missed⟩).map .t),.box az,.box [.t (.sl (places.map Place.e)),.t (.sl (roads.map Road.e)),I time,.ref 5 0 people.length,.t (tL tags),.ref 6 0 readers.length,.t (tL numbers),.t (tL looked),.ref 7 0 missed.length],.arr 4 false 0 [],.arr 1 false 0 [],.arr 3 false 0 ((people.map Wlk.e).map .t),.arr 4 false 0 ((readers.map Rdr.e).map .t),.arr 1 false 0 ((missed.map LLe).map .t)]⟩):=by
  intro z0 z1 z4 z5 z6 z7 z8 X
  refine fy (fun j=>⟨[.und,.und,.bp 1 0,.bp 2 0,.und,.und,.und,.und,.und,.t (tLL missed),I missed.length,I j],[.box ((Tru.cs ⟨⟨places,roads⟩,time,people,tags,readers,numbers,looked,missed⟩).map .t),.box az,.box [.t (.sl (places.map Place.e)),.t (.sl (roads.map Road.e)),I time,.ref 5 0 people.length,.t (tL tags),.ref 6 0 readers.length,.t (tL numbers),.t (tL looked),.ref 7 0 (missed.take j).length],.arr 4 false 0 [],.arr 1 false 0 [],.arr 3 false 0 ((people.map Wlk.e).map .t),.arr 4 false 0 ((readers.map Rdr.e).map .t),.arr 1 false 0 (((missed.take j).map LLe).map .t)]⟩) missed.length rfl ?_ ?_ (by simp)
  · intro j hj
    have ex:(missed.map fun x=>T.sl (x.map (T.int .i64)))[j]?=some (LLe (nth missed j)):=aU _ hj
    have cl:=cy (nth missed j) (m2 _ (bA hj))
    have tk:=jF hj
    have tl:(missed.take j).length=j:=by rw[List.length_take];omega
    have tl2:(missed.take (j+1)).length=j+1:=by rw[List.length_take];omega
    rw[tl2,tk]
    generalize missed.take j=q at*
    generalize nth missed j=y at*
    simp only[Tru.cs,az,List.map_cons,List.map_nil,tL,LLe]at*
    simp (disch:=omega) only[go_sem,K.fE,↓reduceIte,ex,cl,tl,List.map_append,List.map_cons,List.map_nil,Nat.reduceAdd,Nat.reduceSub]
  · rw[tk2]
    simp only[Tru.cs,az,List.map_cons,List.map_nil]
    simp (disch:=omega) only[go_sem,K.fE,↓reduceIte,Nat.reduceAdd,Nat.reduceSub]
 have lp2:=fun z0 z1 z4 z5 z6 z7 z8=>lp2 z0 z1 z4 z5 z6 z7 z8 []
 simp only[xZ,qR,qS,Tru.e,Tru.cs,az,List.map_cons,List.map_nil,LLe,tL]at*
 simp (disch:=omega) only[go_sem,K.bP,↓reduceIte,c1,c2,c3,c4,c5,c6,lp1,lp2,Nat.reduceAdd,Nat.reduceSub]
def mR(x:Tru)(i:Nat)(w:Wlk):Tru:={ x with people:=x.people.set i w}
theorem Jf(q:List Wlk)(k:Nat)(a b c:Int):(((q.map Wlk.e).map D.t).set k (.t (.agg [tI a,tI b,tI c])))=(((q.set k ⟨a,b,c⟩).map Wlk.e).map D.t):=by
 rw[List.map_set,List.map_set]
theorem Pr(q:List Wlk)(k:Nat)(hk:k<q.length)(w:Wlk):(((q.set k w).map Wlk.e).map D.t)[k]?=some (.t w.e):=by
 rw[List.getElem?_map,List.getElem?_map,List.getElem?_set_self hk];rfl
def mS(x:Tru)(i r s:Int):Tru×Int:=
 if 0≤i∧i<x.people.length then
  if(nth x.people i.toNat).kR= -1 then
   if fW x.iT r (nth x.people i.toNat).place<0 then(x,4)
   else if s<0∨3600<s then(x,1)
   else(mR x i.toNat ⟨(nth x.people i.toNat).place,r,fW x.iT r (nth x.people i.toNat).place+s⟩,0)
  else(x,10)
 else(x,19)
def x0{α:Type}(f:α→α)(l:List α)(j:Nat):List α:=(l.take j).map f++l.drop j
theorem Dl{α:Type}(f:α→α)(l:List α):x0 f l l.length=l.map f:=by simp[x0]
theorem Dm{α:Type}(f:α→α)(l:List α)(j:Nat):(x0 f l j).length=l.length:=by
 simp only[x0,List.length_append,List.length_map,List.length_take,List.length_drop];omega
theorem Ps{α:Type}(f:α→α)(l:List α)(j:Nat):(x0 f l j)[j]?=l[j]?:=by
 unfold x0
 by_cases h:j<l.length
 · rw[List.getElem?_append_right (by rw[List.length_map,List.length_take];omega),List.length_map,List.length_take,Nat.min_eq_left (by omega),Nat.sub_self,List.getElem?_drop];rfl
 · rw[List.getElem?_eq_none (by rw[List.length_append,List.length_map,List.length_take,List.length_drop];omega),List.getElem?_eq_none (by omega)]
theorem Dn{α:Type} [Dat α](f:α→α)(l:List α)(j:Nat):nth (x0 f l j) j=nth l j:=by
 unfold nth
 simp only[List.getD_eq_getElem?_getD,Ps]
theorem AK{α:Type} [Dat α](f:α→α)(l:List α)(j:Nat)(h:j<l.length):x0 f l (j+1)=(x0 f l j).set j (f (nth l j)):=by
 have e:=eH (List.getElem?_eq_getElem h)
 have e2:=jF h
 have e3:((l.take j).map f).length=j:=by rw[List.length_map,List.length_take];omega
 unfold x0
 rw[List.set_append_right _ _ (by omega),e3,Nat.sub_self,List.drop_eq_getElem_cons h,List.set_cons_zero,e2,List.map_append,List.append_assoc]
 rfl
def tN(m:bV)(r p:Int):Int:=if p=(nth m.roads r.toNat).frm then(nth m.roads r.toNat).to else(nth m.roads r.toNat).frm
def kv(m:bV)(s:Int)(w:Wlk):Wlk:=
 if w.kR= -1 then w else if w.left-s≤0 then⟨tN m w.kR w.place, -1,0⟩else⟨w.place,w.kR,w.left-s⟩
def vB(x:Tru)(s:Int):Tru×Int:=
 if s<0∨3600<s then(x,1)
 else if 2147483648<x.time+s then(x,8)
 else({ x with time:=x.time+s,people:=x.people.map (kv x.iT s)},0)
theorem Wlk.ok.kR{m:bV}{w:Wlk}(h:w.ok m)(hr:w.kR≠ -1):0≤w.kR∧w.kR<m.roads.length∧((nth m.roads w.kR.toNat).frm=w.place∨(nth m.roads w.kR.toNat).to=w.place)∧1≤w.left∧w.left≤2147483648:=by
 rcases h.2 with h2 | ⟨a,b,c,d⟩
 · exact absurd h2.1 hr
 · unfold fW at b
   split at b
   · next hh=>
     refine⟨a,hh.2,?_,c,d⟩
     split at b
     · next q=>exact .inl q
     · split at b
       · next q=>exact .inr q
       · omega
   · omega
theorem ft{l:Nat}{L:C}{S:St}{p:Ex×St}{K:St→Option (Ex×St)}{E:Ex×St→Option (D×ag)}{R:Option (D×ag)}(h:exS aX L S=some p)(h2:(andThen (lD l (some p)) K).bind E=R):(andThen (lD l (exS aX L S)) K).bind E=R:=by
 rw[h];exact h2
@[go_sem] theorem Pt (H : ag) (p o n : Nat) : vm H 1 [.ref p o n] = some (.ref H.length 0 1, H ++ [.arr 1 false 0 [.ref p o n]]) := rfl
abbrev arI(l:List Int):Obj:= .arr 1 false 0 ((l.map (T.int .i64)).map .t)
theorem aE(q:List Int)(k:Nat)(a:Int):((q.map (T.int .i64)).map D.t).set k (.t (.int .i64 a))=(((q.set k a).map (T.int .i64)).map D.t):=by
 rw[List.map_set,List.map_set]
theorem jm{gc:Bool}{dead:List Nat}{c:C}{vs:List D}{H:ag}(P:Nat→St→Prop)(n:Nat)(Q:Ex×St→Prop)(h0:P 0 ⟨dj dead vs,H⟩)
 (hs:∀j st,j<n→P j st→(∃st',fg gc dead st.H.length (exS aX c st)=some st'∧P (j+1) st')∨∃q,exS aX c st=some q∧q.1≠ .normal∧Q q)
 (he:∀st,P n st→∃q,exS aX c st=some q∧q.1≠ .normal∧Q q):∃q,exS aX (.loop gc dead c) ⟨vs,H⟩=some q∧Q q:=by
 have key:∀(k j:Nat) (st:St),j+k=n→P j st→∃q,jD gc dead (exS aX c) st=some q∧Q q:=by
  intro k
  induction k with
  | zero=>
    intro j st hj hp
    obtain⟨q,h1,h2,h3⟩:=he st (by rw[← hj];exact hp)
    exact⟨q,bC h1 h2,h3⟩
  | succ k ih=>
    intro j st hj hp
    rcases hs j st (by omega) hp with⟨st',h1,h2⟩ | ⟨q,h1,h2,h3⟩
    · obtain⟨q,h3,h4⟩:=ih (j+1) st' (by omega) h2
      exact⟨q,bT h1 h3,h4⟩
    · exact⟨q,bC h1 h2,h3⟩
 exact key n 0 _ (by omega) h0
abbrev iN(k n t:Int)(tags:List Int):T:= .agg [tI k,tI n,tI t,tL tags]
def ui(m:Int)(i:Nat):Int:=IntKind.i64.wrap (BitVec.ofInt 64 (m.fdiv (2 ^ min i 64)) &&& BitVec.ofInt 64 1).toNat
theorem jn(m:Int)(j:Nat)(H:ag):eI H .and (some (I (m.fdiv (2 ^ min j 64)))) (some (I 1))=some (I (ui m j),H):=by
 rw[zo];rfl
def eX(m:Int)(i:Nat):Bool:=decide (ui m i=1)
def cH(people:List Wlk)(pl:List Int)(i:Nat):Bool:=decide ((nth people i).place∈pl)
def c8(people:List Wlk)(pl:List Int)(m:Int)(row:List Int)(i:Nat):Int:=if cH people pl i&&eX m i then nth row i+1 else 0
def fv(people:List Wlk)(pl:List Int)(miss m:Int)(row:List Int)(i:Nat):Bool:=cH people pl i&&eX m i&&decide (miss<nth row i+1)
def bB(g:Nat→Int)(row:List Int):Nat→List Int
 | 0=>row
 | j+1=>(bB g row j).set j (g j)
theorem ef(g:Nat→Int)(row:List Int):∀j,(bB g row j).length=row.length
 | 0=>rfl
 | j+1=>by rw[bB,List.length_set,ef g row j]
theorem gV{α:Type} [Dat α]{l:List α}{i j:Nat}{a:α}(h:j≠i):nth (l.set j a) i=nth l i:=by
 unfold nth
 simp only[List.getD_eq_getElem?_getD,List.getElem?_set_ne h]
theorem aV{α:Type} [Dat α]{l:List α}{i:Nat}{a:α}(h:i<l.length):nth (l.set i a) i=a:=eH (List.getElem?_set_self h)
theorem lO(g:Nat→Int)(row:List Int):∀j i,j≤i→nth (bB g row j) i=nth row i
 | 0,_,_=>rfl
 | j+1,i,h=>by rw[bB,gV (by omega),lO g row j i (by omega)]
theorem AL(g:Nat→Int)(row:List Int):∀j i,i<j→i<row.length→nth (bB g row j) i=g i
 | 0,i,h,_=>absurd h (by omega)
 | j+1,i,h,hl=>by
   rw[bB]
   by_cases c:i=j
   · subst c;exact aV (by rw[ef];exact hl)
   · rw[gV (fun e=>c e.symm),AL g row j i (by omega) hl]
def rR(x:Tru)(k:Nat):Int:=(nth x.numbers k+(if 0≤nth x.looked k∧(nth x.readers k).per<x.time-nth x.looked k then 2 else 1)).tmod 65536
def kS(x:Tru)(k:Nat)(m:Int):Tru:=
 { x with numbers:=x.numbers.set k (rR x k),looked:=x.looked.set k x.time,missed:=x.missed.set k (bB (c8 x.people (nth x.readers k).pl m (nth x.missed k)) (nth x.missed k) x.people.length)}
def p9(x:Tru)(k:Nat)(m:Int):Bool:=(List.range x.people.length).any (fv x.people (nth x.readers k).pl (nth x.readers k).miss m (nth x.missed k))
theorem cF{l:Nat}{L:C}{S:St}{K:St→Option (Ex×St)}{E:Ex×St→Option (D×ag)}{R:Option (D×ag)}(Q:Ex×St→Prop)(h:∃q,exS aX L S=some q∧Q q)(h2:∀q,Q q→(andThen (lD l (some q)) K).bind E=R):(andThen (lD l (exS aX L S)) K).bind E=R:=by
 obtain⟨q,h,hq⟩:=h
 rw[h];exact h2 q hq
@[go_sem] theorem x7 (H : ag) (sz : Nat) : iA H sz true (some .nil) (some .nil) = some (.ref H.length 0 0, H ++ [.arr sz false 0 []]) := rfl
@[go_sem] theorem Dp (H : ag) (sz : Nat) (x : D) : iA H sz true (some x) (some .nil) = vk H sz x (([] : List T).map .t) := by
 have e:elems H .nil=some []:=rfl
 simp only[iA,Option.bind_some,gA,e,if_true,bF]
 exact vl _ _ _ _
abbrev ak(s:Nat)(x:Tru):List D:=[.t (.sl (x.iT.places.map Place.e)),.t (.sl (x.iT.roads.map Road.e)),I x.time,.t (.sl (x.people.map Wlk.e)),.t (tL x.tags),.ref s 0 x.readers.length,.ref (s+1) 0 x.numbers.length,.ref (s+2) 0 x.looked.length,.ref (s+3) 0 x.missed.length]
@[go_sem] theorem RW (H : ag) (a b c d : T) : vm H 4 [.t (.agg [a, b, c, d])] = some (.ref H.length 0 1, H ++ [.arr 4 false 0 [.t (.agg [a, b, c, d])]]) := rfl
theorem x8{x:Tru}(h:x.sz){a:Rdr}{p:List Int}(e1:x.readers=[a])(e2:x.missed=[p]):aX 2 N.aP [.t x.e] []=
 some (.agg (ak 0 x),[.arr 4 false 0 [.t a.e],arI x.numbers,arI x.looked,.arr 1 false 0 [.ref 4 0 p.length],arI p]):=by
 refine aO K.dX rfl ?_
 obtain⟨ha,hb,hc,hd,hr,hr2,hn,hl,hm,hm2⟩:=h
 obtain⟨⟨places,roads⟩,time,people,tags,readers,numbers,looked,missed⟩:=x
 simp only at e1 e2 ha hb hc hd hn hl
 subst e1 e2
 have c1:=jh places ha
 have c2:=iw roads hb
 have c3:=jQ people hc
 have c4:=cy tags hd
 have c5:=eo numbers hn
 have c6:=eo looked hl
 have ca:=cy a.pl (hr2 a (by simp))
 have cp:=eo p (hm2 p (by simp))
 obtain⟨a1,a2,a3,a4⟩:=a
 simp only[Tru.e,Tru.cs,ak,List.map_cons,List.map_nil,LLe,tL,arI,jW,Rdr.e]at*
 simp (disch:=omega) only[go_sem,K.aP,↓reduceIte,c1,c2,c3,c4,Nat.reduceAdd,Nat.reduceSub]
 apply ft
 · apply gn
   apply bT
   · simp (disch:=omega) only[go_sem,K.bh,↓reduceIte,ca,dj,List.set_cons_zero,List.set_cons_succ,Int.reduceAdd,Int.reduceToNat,List.getElem?_cons_succ,List.getElem?_cons_zero,Nat.reduceAdd,Nat.reduceSub]
     rfl
   apply bC
   · simp (disch:=omega) only[go_sem,K.bh,↓reduceIte,Int.reduceAdd,Nat.reduceAdd,Nat.reduceSub]
     rfl
   · simp
 simp (disch:=omega) only[go_sem,K.aP,↓reduceIte,c5,c6,Nat.reduceAdd,Nat.reduceSub]
 apply ft
 · apply gn
   apply bT
   · simp (disch:=omega) only[go_sem,K.bj,↓reduceIte,cp,dj,List.set_cons_zero,List.set_cons_succ,Int.reduceAdd,Int.reduceToNat,List.getElem?_cons_succ,List.getElem?_cons_zero,Nat.reduceAdd,Nat.reduceSub]
     rfl
   apply bC
   · simp (disch:=omega) only[go_sem,K.bj,↓reduceIte,Int.reduceAdd,Nat.reduceAdd,Nat.reduceSub]
     rfl
   · simp
 simp (disch:=omega) only[go_sem,K.aP,↓reduceIte,c5,c6,Nat.reduceAdd,Nat.reduceSub]
theorem qT{x:Tru}(h:x.sz){a b:Rdr}{p p2:List Int}(e1:x.readers=[a,b])(e2:x.missed=[p,p2]):aX 2 N.aP [.t x.e] []=
 some (.agg (ak 0 x),[.arr 4 false 0 [.t a.e,.t b.e],arI x.numbers,arI x.looked,.arr 1 false 0 [.ref 4 0 p.length,.ref 5 0 p2.length],arI p,arI p2]):=by
 refine aO K.dX rfl ?_
 obtain⟨ha,hb,hc,hd,hr,hr2,hn,hl,hm,hm2⟩:=h
 obtain⟨⟨places,roads⟩,time,people,tags,readers,numbers,looked,missed⟩:=x
 simp only at e1 e2 ha hb hc hd hn hl
 subst e1 e2
 have c1:=jh places ha
 have c2:=iw roads hb
 have c3:=jQ people hc
 have c4:=cy tags hd
 have c5:=eo numbers hn
 have c6:=eo looked hl
 have ca:=cy a.pl (hr2 a (by simp))
 have cb:=cy b.pl (hr2 b (by simp))
 have cp:=eo p (hm2 p (by simp))
 have cp2:=eo p2 (hm2 p2 (by simp))
 obtain⟨a1,a2,a3,a4⟩:=a
 obtain⟨b1,b2,b3,b4⟩:=b
 simp only[Tru.e,Tru.cs,ak,List.map_cons,List.map_nil,LLe,tL,arI,jW,Rdr.e]at*
 simp (disch:=omega) only[go_sem,K.aP,↓reduceIte,c1,c2,c3,c4,Nat.reduceAdd,Nat.reduceSub]
 apply ft
 · apply gn
   apply bT
   · simp (disch:=omega) only[go_sem,K.bh,↓reduceIte,ca,cb,dj,List.set_cons_zero,List.set_cons_succ,Int.reduceAdd,Int.reduceToNat,List.getElem?_cons_succ,List.getElem?_cons_zero,Nat.reduceAdd,Nat.reduceSub]
     rfl
   apply bT
   · simp (disch:=omega) only[go_sem,K.bh,↓reduceIte,ca,cb,dj,List.set_cons_zero,List.set_cons_succ,Int.reduceAdd,Int.reduceToNat,List.getElem?_cons_succ,List.getElem?_cons_zero,Nat.reduceAdd,Nat.reduceSub]
     rfl
   apply bC
   · simp (disch:=omega) only[go_sem,K.bh,↓reduceIte,Int.reduceAdd,Nat.reduceAdd,Nat.reduceSub]
     rfl
   · simp
 simp (disch:=omega) only[go_sem,K.aP,↓reduceIte,c5,c6,Nat.reduceAdd,Nat.reduceSub]
 apply ft
 · apply gn
   apply bT
   · simp (disch:=omega) only[go_sem,K.bj,↓reduceIte,cp,cp2,dj,List.set_cons_zero,List.set_cons_succ,Int.reduceAdd,Int.reduceToNat,List.getElem?_cons_succ,List.getElem?_cons_zero,Nat.reduceAdd,Nat.reduceSub]
     rfl
   apply bT
   · simp (disch:=omega) only[go_sem,K.bj,↓reduceIte,cp,cp2,dj,List.set_cons_zero,List.set_cons_succ,Int.reduceAdd,Int.reduceToNat,List.getElem?_cons_succ,List.getElem?_cons_zero,Nat.reduceAdd,Nat.reduceSub]
     rfl
   apply bC
   · simp (disch:=omega) only[go_sem,K.bj,↓reduceIte,Int.reduceAdd,Nat.reduceAdd,Nat.reduceSub]
     rfl
   · simp
 simp (disch:=omega) only[go_sem,K.aP,↓reduceIte,c5,c6,Nat.reduceAdd,Nat.reduceSub]
theorem nD{x:Tru}(h:x.sz){a b d:Rdr}{p p2 p3:List Int}(e1:x.readers=[a,b,d])(e2:x.missed=[p,p2,p3]):aX 2 N.aP [.t x.e] []=
 some (.agg (ak 0 x),[.arr 4 false 0 [.t a.e,.t b.e,.t d.e],arI x.numbers,arI x.looked,.arr 1 false 0 [.ref 4 0 p.length,.ref 5 0 p2.length,.ref 6 0 p3.length],arI p,arI p2,arI p3]):=by
 refine aO K.dX rfl ?_
 obtain⟨ha,hb,hc,hd,hr,hr2,hn,hl,hm,hm2⟩:=h
 obtain⟨⟨places,roads⟩,time,people,tags,readers,numbers,looked,missed⟩:=x
 simp only at e1 e2 ha hb hc hd hn hl
 subst e1 e2
 have c1:=jh places ha
 have c2:=iw roads hb
 have c3:=jQ people hc
 have c4:=cy tags hd
 have c5:=eo numbers hn
 have c6:=eo looked hl
 have ca:=cy a.pl (hr2 a (by simp))
 have cb:=cy b.pl (hr2 b (by simp))
 have cd:=cy d.pl (hr2 d (by simp))
 have cp:=eo p (hm2 p (by simp))
 have cp2:=eo p2 (hm2 p2 (by simp))
 have cp3:=eo p3 (hm2 p3 (by simp))
 obtain⟨a1,a2,a3,a4⟩:=a
 obtain⟨b1,b2,b3,b4⟩:=b
 obtain⟨d1,d2,d3,d4⟩:=d
 simp only[Tru.e,Tru.cs,ak,List.map_cons,List.map_nil,LLe,tL,arI,jW,Rdr.e]at*
 simp (disch:=omega) only[go_sem,K.aP,↓reduceIte,c1,c2,c3,c4,Nat.reduceAdd,Nat.reduceSub]
 apply ft
 · apply gn
   apply bT
   · simp (disch:=omega) only[go_sem,K.bh,↓reduceIte,ca,cb,cd,dj,List.set_cons_zero,List.set_cons_succ,Int.reduceAdd,Int.reduceToNat,List.getElem?_cons_succ,List.getElem?_cons_zero,Nat.reduceAdd,Nat.reduceSub]
     rfl
   apply bT
   · simp (disch:=omega) only[go_sem,K.bh,↓reduceIte,ca,cb,cd,dj,List.set_cons_zero,List.set_cons_succ,Int.reduceAdd,Int.reduceToNat,List.getElem?_cons_succ,List.getElem?_cons_zero,Nat.reduceAdd,Nat.reduceSub]
     rfl
   apply bT
   · simp (disch:=omega) only[go_sem,K.bh,↓reduceIte,ca,cb,cd,dj,List.set_cons_zero,List.set_cons_succ,Int.reduceAdd,Int.reduceToNat,List.getElem?_cons_succ,List.getElem?_cons_zero,Nat.reduceAdd,Nat.reduceSub]
     rfl
   apply bC
   · simp (disch:=omega) only[go_sem,K.bh,↓reduceIte,Int.reduceAdd,Nat.reduceAdd,Nat.reduceSub]
     rfl
   · simp
 simp (disch:=omega) only[go_sem,K.aP,↓reduceIte,c5,c6,Nat.reduceAdd,Nat.reduceSub]
 apply ft
 · apply gn
   apply bT
   · simp (disch:=omega) only[go_sem,K.bj,↓reduceIte,cp,cp2,cp3,dj,List.set_cons_zero,List.set_cons_succ,Int.reduceAdd,Int.reduceToNat,List.getElem?_cons_succ,List.getElem?_cons_zero,Nat.reduceAdd,Nat.reduceSub]
     rfl
   apply bT
   · simp (disch:=omega) only[go_sem,K.bj,↓reduceIte,cp,cp2,cp3,dj,List.set_cons_zero,List.set_cons_succ,Int.reduceAdd,Int.reduceToNat,List.getElem?_cons_succ,List.getElem?_cons_zero,Nat.reduceAdd,Nat.reduceSub]
     rfl
   apply bT
   · simp (disch:=omega) only[go_sem,K.bj,↓reduceIte,cp,cp2,cp3,dj,List.set_cons_zero,List.set_cons_succ,Int.reduceAdd,Int.reduceToNat,List.getElem?_cons_succ,List.getElem?_cons_zero,Nat.reduceAdd,Nat.reduceSub]
     rfl
   apply bC
   · simp (disch:=omega) only[go_sem,K.bj,↓reduceIte,Int.reduceAdd,Nat.reduceAdd,Nat.reduceSub]
     rfl
   · simp
 simp (disch:=omega) only[go_sem,K.aP,↓reduceIte,c5,c6,Nat.reduceAdd,Nat.reduceSub]
def aD(people:List Wlk)(pl:List Int)(m:Int)(tags:List Int):Nat→List Int
 | 0=>[]
 | j+1=>if cH people pl j&& !eX m j then aD people pl m tags j++[nth tags j]else aD people pl m tags j
theorem dY(people:List Wlk)(pl:List Int)(m:Int)(tags:List Int):∀j,(aD people pl m tags j).length≤j
 | 0=>Nat.le_refl _
 | j+1=>by
   have:=dY people pl m tags j
   rw[aD]
   split
   · rw[List.length_append,List.length_singleton];omega
   · omega
theorem jo(m:Int)(j:Nat)(H:ag):eI H .shr (some (I m)) (some (I j))=some (I (m.fdiv (2 ^ min j 64)),H):=by
 have h:eI H .shr (some (.t (.int .i64 m))) (some (.t (.int .i64 (j:Int))))=some (.t (.int .i64 (m.fdiv (2 ^ min (j:Int).toNat IntKind.i64.bits))),H):=zn _ _ _ _ _ (by omega)
 exact h
def rS(x:Tru)(a:Rdr)(p:List Int)(m off:Int)(oN oL:Obj)(num:Int)(j:Nat)(st:St):Prop:=∃W:List Wlk,W.length≤j∧(∀i,i<j→(fv x.people a.pl a.miss m p) i=false)∧st=⟨[.und,I 0,I m,.und,.bp 0 0,.bp 1 0,.bp 2 0,.und,.bp 3 0,.bp 9 0,.und,.und,.bp 10 0,.und,.und,.und,.und,.und,.t (.sl (x.people.map Wlk.e)),I x.people.length,I j],[.box (x.cs.map .t),.box az,.box [I 0,I 0,I 0,.nil],.box [.t (tL a.pl),I a.per,I a.miss,I a.skew],.arr 4 false 0 [.t a.e],oN,oL,.arr 1 false 0 [.ref 8 0 p.length],arI (bB (c8 x.people a.pl m p) p j),.box (ak 4 x),.box [I 0,I num,I (x.time+off),.ref 12 0 (aD x.people a.pl m x.tags j).length],.arr 1 false 0 [],arI (aD x.people a.pl m x.tags j)]++(W.map fun w=> .box [I w.place,I w.kR,I w.left])⟩
def AM(x:Tru)(a:Rdr)(p:List Int)(m off:Int)(oN oL:Obj)(num:Int)(q:Ex×St):Prop:=((List.range x.people.length).any (fv x.people a.pl a.miss m p)=true∧∃(v0 v3 v8 v9 v10:D) (vr:List D) (rest:ag),q=(.ret,⟨v0::I 0::I m::v3:: .bp 0 0:: .bp 1 0:: .bp 2 0::I 43::vr,.box (x.cs.map .t):: .box (x.cs.map .t):: .box [I 0,I 0,I 0,.nil]::rest⟩))∨((List.range x.people.length).any (fv x.people a.pl a.miss m p)=false∧∃st,rS x a p m off oN oL num x.people.length st∧q=(.exit 1,st))
theorem Jg{x:Tru}(h:x.ok){a:Rdr}{p:List Int}(e1:x.readers=[a])(e2:x.missed=[p])(m off:Int)(oN oL:Obj)(num:Int)(j:Nat)(st:St)(hj:j<x.people.length)(hp:rS x a p m off oN oL num j st):
 (∃st',fg false [0,3,7,10,11,13,14,15,16,17] st.H.length (exS aX K.aa st)=some st'∧rS x a p m off oN oL num (j+1) st')∨∃q,exS aX K.aa st=some q∧q.1≠ .normal∧AM x a p m off oN oL num q:=by
 have n3:=h.n3
 have tl:=h.tl
 have nl:=h.nl
 have ll:=h.ll
 have t0:=h.t0
 have t1:=h.t1
 have nb:=h.nb 0 (by rw[e1];simp)
 have mb:=h.mb 0 (by rw[e1];simp)
 have m2:=h.m2 0 (by rw[e1];simp)
 have rk:nth x.readers 0=a:=by rw[e1];rfl
 have mk:nth x.missed 0=p:=by rw[e2];rfl
 have ml:x.missed.length=1:=by rw[e2];rfl
 have rn:x.readers.length=1:=by rw[e1];rfl
 have ro:=h.r a (by rw[e1];simp)
 rw[rk,mk]at mb
 rw[mk]at m2
 obtain⟨rs,rl,rl1,rp1,rp2,rm1,rm2,rk1,rk2⟩:=ro
 have ex:(x.people.map Wlk.e)[j]?=some (nth x.people j).e:=aU _ hj
 have et:(x.tags.map (T.int .i64))[j]?=some (tI (nth x.tags j)):=aU _ (by omega)
 have hs:=gq a.pl (nth x.people j).place (by omega)
 have mbj:=mb j hj
 have sh:=jo m j
 have an:=jn m j
 obtain⟨W,wl,hb,rfl⟩:=hp
 have ql:=ef (c8 x.people a.pl m p) p j
 have qj:=lO (c8 x.people a.pl m p) p j j (Nat.le_refl _)
 have sl:=dY x.people a.pl m x.tags j
 by_cases hq:(fv x.people a.pl a.miss m p) j=true
 · have anyb:(List.range x.people.length).any (fv x.people a.pl a.miss m p)=true:=List.any_eq_true.2 ⟨j,List.mem_range.2 hj,hq⟩
   unfold fv cH eX at hq
   simp only[Bool.and_eq_true,decide_eq_true_eq]at hq
   obtain⟨⟨h1,h2⟩,h3⟩:=hq
   generalize bB _ p j=q at*
   generalize aD x.people a.pl m x.tags j=g at*
   rw[← qj]at h3
   have nse:nth (q.set j (nth q j+1)) j=nth q j+1:=aV (by omega)
   rw[decide_eq_true h1]at hs
   have key:∃(v0 v3:D) (vr:List D) (rest:ag),exS aX K.aa ⟨[.und,I 0,I m,.und,.bp 0 0,.bp 1 0,.bp 2 0,.und,.bp 3 0,.bp 9 0,.und,.und,.bp 10 0,.und,.und,.und,.und,.und,.t (.sl (x.people.map Wlk.e)),I x.people.length,I j],[.box (x.cs.map .t),.box az,.box [I 0,I 0,I 0,.nil],.box [.t (tL a.pl),I a.per,I a.miss,I a.skew],.arr 4 false 0 [.t a.e],oN,oL,.arr 1 false 0 [.ref 8 0 p.length],arI q,.box (ak 4 x),.box [I 0,I num,I (x.time+off),.ref 12 0 g.length],.arr 1 false 0 [],arI g]++(W.map fun w=> .box [I w.place,I w.kR,I w.left])⟩=some (.ret,⟨v0::I 0::I m::v3:: .bp 0 0:: .bp 1 0:: .bp 2 0::I 43::vr,.box (x.cs.map .t):: .box (x.cs.map .t):: .box [I 0,I 0,I 0,.nil]::rest⟩):=by
    generalize nth x.people j=y at*
    obtain⟨y1,y2,y3⟩:=y
    rcases W with _ | ⟨w,_ | ⟨w2,_ | ⟨w3,W⟩⟩⟩
    · obtain⟨⟨places,roads⟩,time,people,tags,readers,numbers,looked,missed⟩:=x
      simp only[az,Tru.cs,ak,Rdr.e,arI,List.cons_append,List.nil_append,List.map_cons,List.map_nil,LLe,tL,ml,rn,Nat.reduceAdd,Nat.reduceSub,List.length_cons,List.length_nil]at*
      simp (disch:=omega) only[go_sem,K.aa,↓reduceIte,ex,hs,sh,an,h2,nse,h3,aE,List.length_set,ql,List.map_append,List.map_cons,List.map_nil,List.length_append,List.length_singleton,gt_iff_lt,Nat.reduceAdd,Nat.reduceSub]
      exact⟨_,_,_,_,rfl⟩
    · obtain⟨⟨places,roads⟩,time,people,tags,readers,numbers,looked,missed⟩:=x
      simp only[az,Tru.cs,ak,Rdr.e,arI,List.cons_append,List.nil_append,List.map_cons,List.map_nil,LLe,tL,ml,rn,Nat.reduceAdd,Nat.reduceSub,List.length_cons,List.length_nil]at*
      simp (disch:=omega) only[go_sem,K.aa,↓reduceIte,ex,hs,sh,an,h2,nse,h3,aE,List.length_set,ql,List.map_append,List.map_cons,List.map_nil,List.length_append,List.length_singleton,gt_iff_lt,Nat.reduceAdd,Nat.reduceSub]
      exact⟨_,_,_,_,rfl⟩
    · obtain⟨⟨places,roads⟩,time,people,tags,readers,numbers,looked,missed⟩:=x
      simp only[az,Tru.cs,ak,Rdr.e,arI,List.cons_append,List.nil_append,List.map_cons,List.map_nil,LLe,tL,ml,rn,Nat.reduceAdd,Nat.reduceSub,List.length_cons,List.length_nil]at*
      simp (disch:=omega) only[go_sem,K.aa,↓reduceIte,ex,hs,sh,an,h2,nse,h3,aE,List.length_set,ql,List.map_append,List.map_cons,List.map_nil,List.length_append,List.length_singleton,gt_iff_lt,Nat.reduceAdd,Nat.reduceSub]
      exact⟨_,_,_,_,rfl⟩
    · simp only[List.length_cons]at wl;omega
   obtain⟨v0,v3,vr,rest,key⟩:=key
   exact .inr ⟨_,key,by simp,.inl ⟨anyb,v0,v3,v0,v0,v0,vr,rest,rfl⟩⟩
 · have hq:(fv x.people a.pl a.miss m p) j=false:=by simpa using hq
   have hb2:∀i,i<j+1→(fv x.people a.pl a.miss m p) i=false:=fun i hi=>by
    by_cases c:i=j
    · rw[c];exact hq
    · exact hb i (by omega)
   left
   by_cases h1:(nth x.people j).place∈a.pl
   · rw[decide_eq_true h1]at hs
     by_cases h2:ui m j=1
     · have nw:(c8 x.people a.pl m p) j=nth p j+1:=by unfold c8 cH eX;rw[decide_eq_true h1,decide_eq_true h2];rfl
       have nl0:¬a.miss<nth p j+1:=by
        unfold fv cH eX at hq
        rw[decide_eq_true h1,decide_eq_true h2]at hq
        simpa using hq
       have ss1:aD x.people a.pl m x.tags (j+1)=aD x.people a.pl m x.tags j:=by rw[aD];unfold cH eX;rw[decide_eq_true h1,decide_eq_true h2];rfl
       have rs1:bB (c8 x.people a.pl m p) p (j+1)=(bB (c8 x.people a.pl m p) p j).set j (nth p j+1):=by rw[bB,nw]
       generalize hy:nth x.people j=y at*
       rcases W with _ | ⟨w,_ | ⟨w2,_ | ⟨w3,W⟩⟩⟩
       · refine⟨_,?_,[]++[y],by simp only[List.length_cons,List.length_nil,List.length_append]at *;omega,hb2,rfl⟩
         rw[rs1,ss1]
         generalize bB _ p j=q at*
         generalize aD x.people a.pl m x.tags j=g at*
         rw[← qj]at nl0 ⊢
         have nse:nth (q.set j (nth q j+1)) j=nth q j+1:=aV (by omega)
         obtain⟨y1,y2,y3⟩:=y
         obtain⟨⟨places,roads⟩,time,people,tags,readers,numbers,looked,missed⟩:=x
         simp only[az,Tru.cs,ak,Rdr.e,arI,List.cons_append,List.nil_append,List.map_cons,List.map_nil,LLe,tL,ml,rn,Nat.reduceAdd,Nat.reduceSub,List.length_cons,List.length_nil]at*
         simp (disch:=omega) only[go_sem,K.aa,↓reduceIte,ex,hs,sh,an,h2,nse,nl0,aE,List.length_set,ql,List.map_append,List.map_cons,List.map_nil,List.length_append,List.length_singleton,gt_iff_lt,Nat.reduceAdd,Nat.reduceSub]
       · refine⟨_,?_,[w]++[y],by simp only[List.length_cons,List.length_nil,List.length_append]at *;omega,hb2,rfl⟩
         rw[rs1,ss1]
         generalize bB _ p j=q at*
         generalize aD x.people a.pl m x.tags j=g at*
         rw[← qj]at nl0 ⊢
         have nse:nth (q.set j (nth q j+1)) j=nth q j+1:=aV (by omega)
         obtain⟨y1,y2,y3⟩:=y
         obtain⟨⟨places,roads⟩,time,people,tags,readers,numbers,looked,missed⟩:=x
         simp only[az,Tru.cs,ak,Rdr.e,arI,List.cons_append,List.nil_append,List.map_cons,List.map_nil,LLe,tL,ml,rn,Nat.reduceAdd,Nat.reduceSub,List.length_cons,List.length_nil]at*
         simp (disch:=omega) only[go_sem,K.aa,↓reduceIte,ex,hs,sh,an,h2,nse,nl0,aE,List.length_set,ql,List.map_append,List.map_cons,List.map_nil,List.length_append,List.length_singleton,gt_iff_lt,Nat.reduceAdd,Nat.reduceSub]
       · refine⟨_,?_,[w,w2]++[y],by simp only[List.length_cons,List.length_nil,List.length_append]at *;omega,hb2,rfl⟩
         rw[rs1,ss1]
         generalize bB _ p j=q at*
         generalize aD x.people a.pl m x.tags j=g at*
         rw[← qj]at nl0 ⊢
         have nse:nth (q.set j (nth q j+1)) j=nth q j+1:=aV (by omega)
         obtain⟨y1,y2,y3⟩:=y
         obtain⟨⟨places,roads⟩,time,people,tags,readers,numbers,looked,missed⟩:=x
         simp only[az,Tru.cs,ak,Rdr.e,arI,List.cons_append,List.nil_append,List.map_cons,List.map_nil,LLe,tL,ml,rn,Nat.reduceAdd,Nat.reduceSub,List.length_cons,List.length_nil]at*
         simp (disch:=omega) only[go_sem,K.aa,↓reduceIte,ex,hs,sh,an,h2,nse,nl0,aE,List.length_set,ql,List.map_append,List.map_cons,List.map_nil,List.length_append,List.length_singleton,gt_iff_lt,Nat.reduceAdd,Nat.reduceSub]
       · simp only[List.length_cons]at wl;omega
     · have nw:(c8 x.people a.pl m p) j=0:=by unfold c8 cH eX;rw[decide_eq_true h1,decide_eq_false h2];rfl
       have ss1:aD x.people a.pl m x.tags (j+1)=aD x.people a.pl m x.tags j++[nth x.tags j]:=by rw[aD];unfold cH eX;rw[decide_eq_true h1,decide_eq_false h2];rfl
       have rs1:bB (c8 x.people a.pl m p) p (j+1)=(bB (c8 x.people a.pl m p) p j).set j 0:=by rw[bB,nw]
       generalize hy:nth x.people j=y at*
       rcases W with _ | ⟨w,_ | ⟨w2,_ | ⟨w3,W⟩⟩⟩
       · refine⟨_,?_,[]++[y],by simp only[List.length_cons,List.length_nil,List.length_append]at *;omega,hb2,rfl⟩
         rw[rs1,ss1]
         generalize bB _ p j=q at*
         generalize aD x.people a.pl m x.tags j=g at*
         obtain⟨y1,y2,y3⟩:=y
         obtain⟨⟨places,roads⟩,time,people,tags,readers,numbers,looked,missed⟩:=x
         simp only[az,Tru.cs,ak,Rdr.e,arI,List.cons_append,List.nil_append,List.map_cons,List.map_nil,LLe,tL,ml,rn,Nat.reduceAdd,Nat.reduceSub,List.length_cons,List.length_nil]at*
         simp (disch:=omega) only[go_sem,K.aa,↓reduceIte,ex,hs,sh,an,h2,et,aE,List.length_set,ql,List.map_append,List.map_cons,List.map_nil,List.length_append,List.length_singleton,gt_iff_lt,Nat.reduceAdd,Nat.reduceSub]
       · refine⟨_,?_,[w]++[y],by simp only[List.length_cons,List.length_nil,List.length_append]at *;omega,hb2,rfl⟩
         rw[rs1,ss1]
         generalize bB _ p j=q at*
         generalize aD x.people a.pl m x.tags j=g at*
         obtain⟨y1,y2,y3⟩:=y
         obtain⟨⟨places,roads⟩,time,people,tags,readers,numbers,looked,missed⟩:=x
         simp only[az,Tru.cs,ak,Rdr.e,arI,List.cons_append,List.nil_append,List.map_cons,List.map_nil,LLe,tL,ml,rn,Nat.reduceAdd,Nat.reduceSub,List.length_cons,List.length_nil]at*
         simp (disch:=omega) only[go_sem,K.aa,↓reduceIte,ex,hs,sh,an,h2,et,aE,List.length_set,ql,List.map_append,List.map_cons,List.map_nil,List.length_append,List.length_singleton,gt_iff_lt,Nat.reduceAdd,Nat.reduceSub]
       · refine⟨_,?_,[w,w2]++[y],by simp only[List.length_cons,List.length_nil,List.length_append]at *;omega,hb2,rfl⟩
         rw[rs1,ss1]
         generalize bB _ p j=q at*
         generalize aD x.people a.pl m x.tags j=g at*
         obtain⟨y1,y2,y3⟩:=y
         obtain⟨⟨places,roads⟩,time,people,tags,readers,numbers,looked,missed⟩:=x
         simp only[az,Tru.cs,ak,Rdr.e,arI,List.cons_append,List.nil_append,List.map_cons,List.map_nil,LLe,tL,ml,rn,Nat.reduceAdd,Nat.reduceSub,List.length_cons,List.length_nil]at*
         simp (disch:=omega) only[go_sem,K.aa,↓reduceIte,ex,hs,sh,an,h2,et,aE,List.length_set,ql,List.map_append,List.map_cons,List.map_nil,List.length_append,List.length_singleton,gt_iff_lt,Nat.reduceAdd,Nat.reduceSub]
       · simp only[List.length_cons]at wl;omega
   · have nw:(c8 x.people a.pl m p) j=0:=by unfold c8 cH eX;rw[decide_eq_false h1];rfl
     have ss1:aD x.people a.pl m x.tags (j+1)=aD x.people a.pl m x.tags j:=by rw[aD];unfold cH eX;rw[decide_eq_false h1];rfl
     have rs1:bB (c8 x.people a.pl m p) p (j+1)=(bB (c8 x.people a.pl m p) p j).set j 0:=by rw[bB,nw]
     rw[decide_eq_false h1]at hs
     by_cases h2:ui m j=1
     · generalize hy:nth x.people j=y at*
       rcases W with _ | ⟨w,_ | ⟨w2,_ | ⟨w3,W⟩⟩⟩
       · refine⟨_,?_,[]++[y],by simp only[List.length_cons,List.length_nil,List.length_append]at *;omega,hb2,rfl⟩
         rw[rs1,ss1]
         generalize bB _ p j=q at*
         generalize aD x.people a.pl m x.tags j=g at*
         obtain⟨y1,y2,y3⟩:=y
         obtain⟨⟨places,roads⟩,time,people,tags,readers,numbers,looked,missed⟩:=x
         simp only[az,Tru.cs,ak,Rdr.e,arI,List.cons_append,List.nil_append,List.map_cons,List.map_nil,LLe,tL,ml,rn,Nat.reduceAdd,Nat.reduceSub,List.length_cons,List.length_nil]at*
         simp (disch:=omega) only[go_sem,K.aa,↓reduceIte,ex,hs,sh,an,h2,aE,List.length_set,ql,List.map_append,List.map_cons,List.map_nil,List.length_append,List.length_singleton,gt_iff_lt,Nat.reduceAdd,Nat.reduceSub]
       · refine⟨_,?_,[w]++[y],by simp only[List.length_cons,List.length_nil,List.length_append]at *;omega,hb2,rfl⟩
         rw[rs1,ss1]
         generalize bB _ p j=q at*
         generalize aD x.people a.pl m x.tags j=g at*
         obtain⟨y1,y2,y3⟩:=y
         obtain⟨⟨places,roads⟩,time,people,tags,readers,numbers,looked,missed⟩:=x
         simp only[az,Tru.cs,ak,Rdr.e,arI,List.cons_append,List.nil_append,List.map_cons,List.map_nil,LLe,tL,ml,rn,Nat.reduceAdd,Nat.reduceSub,List.length_cons,List.length_nil]at*
         simp (disch:=omega) only[go_sem,K.aa,↓reduceIte,ex,hs,sh,an,h2,aE,List.length_set,ql,List.map_append,List.map_cons,List.map_nil,List.length_append,List.length_singleton,gt_iff_lt,Nat.reduceAdd,Nat.reduceSub]
       · refine⟨_,?_,[w,w2]++[y],by simp only[List.length_cons,List.length_nil,List.length_append]at *;omega,hb2,rfl⟩
         rw[rs1,ss1]
         generalize bB _ p j=q at*
         generalize aD x.people a.pl m x.tags j=g at*
         obtain⟨y1,y2,y3⟩:=y
         obtain⟨⟨places,roads⟩,time,people,tags,readers,numbers,looked,missed⟩:=x
         simp only[az,Tru.cs,ak,Rdr.e,arI,List.cons_append,List.nil_append,List.map_cons,List.map_nil,LLe,tL,ml,rn,Nat.reduceAdd,Nat.reduceSub,List.length_cons,List.length_nil]at*
         simp (disch:=omega) only[go_sem,K.aa,↓reduceIte,ex,hs,sh,an,h2,aE,List.length_set,ql,List.map_append,List.map_cons,List.map_nil,List.length_append,List.length_singleton,gt_iff_lt,Nat.reduceAdd,Nat.reduceSub]
       · simp only[List.length_cons]at wl;omega
     · generalize hy:nth x.people j=y at*
       rcases W with _ | ⟨w,_ | ⟨w2,_ | ⟨w3,W⟩⟩⟩
       · refine⟨_,?_,[]++[y],by simp only[List.length_cons,List.length_nil,List.length_append]at *;omega,hb2,rfl⟩
         rw[rs1,ss1]
         generalize bB _ p j=q at*
         generalize aD x.people a.pl m x.tags j=g at*
         obtain⟨y1,y2,y3⟩:=y
         obtain⟨⟨places,roads⟩,time,people,tags,readers,numbers,looked,missed⟩:=x
         simp only[az,Tru.cs,ak,Rdr.e,arI,List.cons_append,List.nil_append,List.map_cons,List.map_nil,LLe,tL,ml,rn,Nat.reduceAdd,Nat.reduceSub,List.length_cons,List.length_nil]at*
         simp (disch:=omega) only[go_sem,K.aa,↓reduceIte,ex,hs,sh,an,h2,aE,List.length_set,ql,List.map_append,List.map_cons,List.map_nil,List.length_append,List.length_singleton,gt_iff_lt,Nat.reduceAdd,Nat.reduceSub]
       · refine⟨_,?_,[w]++[y],by simp only[List.length_cons,List.length_nil,List.length_append]at *;omega,hb2,rfl⟩
         rw[rs1,ss1]
         generalize bB _ p j=q at*
         generalize aD x.people a.pl m x.tags j=g at*
         obtain⟨y1,y2,y3⟩:=y
         obtain⟨⟨places,roads⟩,time,people,tags,readers,numbers,looked,missed⟩:=x
         simp only[az,Tru.cs,ak,Rdr.e,arI,List.cons_append,List.nil_append,List.map_cons,List.map_nil,LLe,tL,ml,rn,Nat.reduceAdd,Nat.reduceSub,List.length_cons,List.length_nil]at*
         simp (disch:=omega) only[go_sem,K.aa,↓reduceIte,ex,hs,sh,an,h2,aE,List.length_set,ql,List.map_append,List.map_cons,List.map_nil,List.length_append,List.length_singleton,gt_iff_lt,Nat.reduceAdd,Nat.reduceSub]
       · refine⟨_,?_,[w,w2]++[y],by simp only[List.length_cons,List.length_nil,List.length_append]at *;omega,hb2,rfl⟩
         rw[rs1,ss1]
         generalize bB _ p j=q at*
         generalize aD x.people a.pl m x.tags j=g at*
         obtain⟨y1,y2,y3⟩:=y
         obtain⟨⟨places,roads⟩,time,people,tags,readers,numbers,looked,missed⟩:=x
         simp only[az,Tru.cs,ak,Rdr.e,arI,List.cons_append,List.nil_append,List.map_cons,List.map_nil,LLe,tL,ml,rn,Nat.reduceAdd,Nat.reduceSub,List.length_cons,List.length_nil]at*
         simp (disch:=omega) only[go_sem,K.aa,↓reduceIte,ex,hs,sh,an,h2,aE,List.length_set,ql,List.map_append,List.map_cons,List.map_nil,List.length_append,List.length_singleton,gt_iff_lt,Nat.reduceAdd,Nat.reduceSub]
       · simp only[List.length_cons]at wl;omega
theorem Jh{x:Tru}(h:x.ok){a:Rdr}{p:List Int}(e1:x.readers=[a])(e2:x.missed=[p])(m off:Int)(oN oL:Obj)(num:Int)(z0 z3 z7 z10 z11 z13 z14 z15 z16 z17:D):∃q,exS aX K.ee ⟨[z0,I 0,I m,z3,.bp 0 0,.bp 1 0,.bp 2 0,z7,.bp 3 0,.bp 9 0,z10,z11,.bp 10 0,z13,z14,z15,z16,z17,.t (.sl (x.people.map Wlk.e)),I x.people.length,I 0],[.box (x.cs.map .t),.box az,.box [I 0,I 0,I 0,.nil],.box [.t (tL a.pl),I a.per,I a.miss,I a.skew],.arr 4 false 0 [.t a.e],oN,oL,.arr 1 false 0 [.ref 8 0 p.length],arI p,.box (ak 4 x),.box [I 0,I num,I (x.time+off),.ref 12 0 0],.arr 1 false 0 [],arI ([]:List Int)]⟩=some q∧AM x a p m off oN oL num q:=by
 have n3:=h.n3
 have tl:=h.tl
 have nl:=h.nl
 have ll:=h.ll
 have t0:=h.t0
 have t1:=h.t1
 have nb:=h.nb 0 (by rw[e1];simp)
 have mb:=h.mb 0 (by rw[e1];simp)
 have m2:=h.m2 0 (by rw[e1];simp)
 have rk:nth x.readers 0=a:=by rw[e1];rfl
 have mk:nth x.missed 0=p:=by rw[e2];rfl
 have ml:x.missed.length=1:=by rw[e2];rfl
 have rn:x.readers.length=1:=by rw[e1];rfl
 have ro:=h.r a (by rw[e1];simp)
 rw[rk,mk]at mb
 rw[mk]at m2
 obtain⟨rs,rl,rl1,rp1,rp2,rm1,rm2,rk1,rk2⟩:=ro
 refine jm (rS x a p m off oN oL num) x.people.length _ ⟨[],Nat.le_refl _,fun i hi=>absurd hi (by omega),rfl⟩ (fun j st hj hp=>Jg h e1 e2 m off oN oL num j st hj hp) ?_
 intro st hp
 refine⟨(.exit 1,st),?_,by simp,.inr ⟨?_,st,hp,rfl⟩⟩
 · obtain⟨W,wl,hb,rfl⟩:=hp
   have wl:=Nat.le_trans wl n3
   generalize bB _ p _=q at*
   generalize aD x.people a.pl m x.tags _=g at*
   rcases W with _ | ⟨w,_ | ⟨w2,_ | ⟨w3,_ | ⟨w4,W⟩⟩⟩⟩
   · obtain⟨⟨places,roads⟩,time,people,tags,readers,numbers,looked,missed⟩:=x
     simp only[az,Tru.cs,ak,Rdr.e,arI,List.cons_append,List.nil_append,List.map_cons,List.map_nil,LLe,tL,ml,rn,Nat.reduceAdd,Nat.reduceSub,List.length_cons,List.length_nil]at*
     simp (disch:=omega) only[go_sem,K.aa,↓reduceIte,Nat.reduceAdd,Nat.reduceSub]
   · obtain⟨⟨places,roads⟩,time,people,tags,readers,numbers,looked,missed⟩:=x
     simp only[az,Tru.cs,ak,Rdr.e,arI,List.cons_append,List.nil_append,List.map_cons,List.map_nil,LLe,tL,ml,rn,Nat.reduceAdd,Nat.reduceSub,List.length_cons,List.length_nil]at*
     simp (disch:=omega) only[go_sem,K.aa,↓reduceIte,Nat.reduceAdd,Nat.reduceSub]
   · obtain⟨⟨places,roads⟩,time,people,tags,readers,numbers,looked,missed⟩:=x
     simp only[az,Tru.cs,ak,Rdr.e,arI,List.cons_append,List.nil_append,List.map_cons,List.map_nil,LLe,tL,ml,rn,Nat.reduceAdd,Nat.reduceSub,List.length_cons,List.length_nil]at*
     simp (disch:=omega) only[go_sem,K.aa,↓reduceIte,Nat.reduceAdd,Nat.reduceSub]
   · obtain⟨⟨places,roads⟩,time,people,tags,readers,numbers,looked,missed⟩:=x
     simp only[az,Tru.cs,ak,Rdr.e,arI,List.cons_append,List.nil_append,List.map_cons,List.map_nil,LLe,tL,ml,rn,Nat.reduceAdd,Nat.reduceSub,List.length_cons,List.length_nil]at*
     simp (disch:=omega) only[go_sem,K.aa,↓reduceIte,Nat.reduceAdd,Nat.reduceSub]
   · simp only[List.length_cons]at wl;omega
 · obtain⟨W,wl,hb,rfl⟩:=hp
   rw[List.any_eq_false]
   intro i hi
   rw[hb i (List.mem_range.1 hi)]
   decide
set_option maxHeartbeats 4000000 in
theorem AN{x:Tru}(h:x.ok){a:Rdr}{p:List Int}(e1:x.readers=[a])(e2:x.missed=[p])(m off:Int)(o1: -a.skew≤off)(o2:off≤a.skew)(o3:0≤x.time+off)(o4:x.time+off≤2147483648):
 aX 0 N.ae [.t x.e,I 0,I m,I off] []=some (if p9 x 0 m then .tup [.t x.e,.t (iN 0 0 0 []),I 43]else .tup [.t (kS x 0 m).e,.t (iN 0 (rR x 0) (x.time+off) (eZ (aD x.people a.pl m x.tags x.people.length))),I 0],[]):=by
 have n3:=h.n3
 have tl:=h.tl
 have nl:=h.nl
 have ll:=h.ll
 have t0:=h.t0
 have t1:=h.t1
 have nb:=h.nb 0 (by rw[e1];simp)
 have mb:=h.mb 0 (by rw[e1];simp)
 have m2:=h.m2 0 (by rw[e1];simp)
 have rk:nth x.readers 0=a:=by rw[e1];rfl
 have mk:nth x.missed 0=p:=by rw[e2];rfl
 have ml:x.missed.length=1:=by rw[e2];rfl
 have rn:x.readers.length=1:=by rw[e1];rfl
 have ro:=h.r a (by rw[e1];simp)
 rw[rk,mk]at mb
 rw[mk]at m2
 obtain⟨rs,rl,rl1,rp1,rp2,rm1,rm2,rk1,rk2⟩:=ro
 have sz:=h.sz
 have cp:=x8 sz e1 e2
 have va:=gz h
 have lpL:=Jh h e1 e2 m off
 have scl:∀(y:Tru) (r:T) (v:Int),([D.t y.e,D.t r,I v].all cG)=false:=fun _ _ _=>rfl
 have sl:=dY x.people a.pl m x.tags x.people.length
 have so:=nz 0 (aD x.people a.pl m x.tags x.people.length) (by omega)
 have sol:=eu (aD x.people a.pl m x.tags x.people.length)
 have i1:=eP 0 0 ((1:Int)-1)
 have i2:=eP off (0-a.skew) a.skew
 have i3:=eP (x.time+off) 0 2147483648
 rw[decide_eq_true (by omega)]at i1 i2 i3
 unfold p9 kS rR
 rw[rk,mk]
 have en:(x.numbers.map (T.int .i64))[0]?=some (tI (nth x.numbers 0)):=aU _ (by omega)
 have el:(x.looked.map (T.int .i64))[0]?=some (tI (nth x.looked 0)):=aU _ (by omega)
 generalize nth x.numbers 0=nu at*
 generalize nth x.looked 0=lo at*
 refine aO K.ea rfl ?_
 have qe:∀(b:Prop) [Decidable b],(nu+if b then 2 else 1)=if b then nu+2 else nu+1:=fun b _=>by split<;>rfl
 have wl:=ef (c8 x.people a.pl m p) p x.people.length
 by_cases bq:(List.range x.people.length).any (fv x.people a.pl a.miss m p)=true
 · rw[if_pos bq]
   obtain⟨⟨places,roads⟩,time,people,tags,readers,numbers,looked,missed⟩:=x
   subst e1 e2
   simp only[az,Tru.e,Tru.cs,ak,arI,jW,tLL,Rdr.e,List.map_cons,List.map_nil,LLe,tL]at*
   by_cases ca:0≤lo
   · by_cases cb:a.per<time-lo
     · simp (disch:=omega) only[go_sem,K.ae,↓reduceIte,cp,va,i1,i2,i3,en,el,ca,cb,gt_iff_lt,aE,List.length_set,Nat.reduceAdd,Nat.reduceSub]
       refine cF _ (lpL _ _ _ _ _ _ _ _ _ _ _ _ _) ?_
       rintro q (⟨_,v0,v3,_,_,_,vr,rest,rfl⟩ | ⟨n,_⟩)
       · simp (disch:=omega) only[go_sem,K.ae,↓reduceIte,scl,Nat.reduceAdd,Nat.reduceSub]
         rfl
       · rw[n]at bq;cases bq
     · simp (disch:=omega) only[go_sem,K.ae,↓reduceIte,cp,va,i1,i2,i3,en,el,ca,cb,gt_iff_lt,aE,List.length_set,Nat.reduceAdd,Nat.reduceSub]
       refine cF _ (lpL _ _ _ _ _ _ _ _ _ _ _ _ _) ?_
       rintro q (⟨_,v0,v3,_,_,_,vr,rest,rfl⟩ | ⟨n,_⟩)
       · simp (disch:=omega) only[go_sem,K.ae,↓reduceIte,scl,Nat.reduceAdd,Nat.reduceSub]
         rfl
       · rw[n]at bq;cases bq
   · simp (disch:=omega) only[go_sem,K.ae,↓reduceIte,cp,va,i1,i2,i3,en,el,ca,gt_iff_lt,aE,List.length_set,Nat.reduceAdd,Nat.reduceSub]
     refine cF _ (lpL _ _ _ _ _ _ _ _ _ _ _ _ _) ?_
     rintro q (⟨_,v0,v3,_,_,_,vr,rest,rfl⟩ | ⟨n,_⟩)
     · simp (disch:=omega) only[go_sem,K.ae,↓reduceIte,scl,Nat.reduceAdd,Nat.reduceSub]
       rfl
     · rw[n]at bq;cases bq
 · rw[if_neg bq]
   have qa:(x.numbers.set 0 ((nu+if 0≤lo∧a.per<x.time-lo then 2 else 1).tmod 65536)).length=x.numbers.length:=List.length_set ..
   generalize hg:aD x.people a.pl m x.tags x.people.length=g at*
   obtain⟨q,hq,hQ⟩:=lpL (arI (x.numbers.set 0 ((nu+if 0≤lo∧a.per<x.time-lo then 2 else 1).tmod 65536))) (arI (x.looked.set 0 x.time)) ((nu+if 0≤lo∧a.per<x.time-lo then 2 else 1).tmod 65536) (.t x.e) (I off) (I 0) (if 0≤lo∧a.per<x.time-lo then I 2 else I 1) (I ((nu+if 0≤lo∧a.per<x.time-lo then 2 else 1).tmod 65536)) .und .und .und .und .und
   rcases hQ with⟨n,_⟩ | ⟨_,st,⟨W,wl2,hb,rfl⟩,rfl⟩
   · exact absurd n bq
   rw[hg]at hq
   generalize bB _ p _=w at*
   rcases W with _ | ⟨w1,_ | ⟨w2,_ | ⟨w3,_ | ⟨w4,W⟩⟩⟩⟩
   · obtain⟨⟨places,roads⟩,time,people,tags,readers,numbers,looked,missed⟩:=x
     subst e1 e2
     simp only[az,Tru.e,Tru.cs,iN,ak,arI,jW,tLL,Rdr.e,List.cons_append,List.nil_append,List.map_cons,List.map_nil,LLe,tL,Nat.reduceAdd,Nat.reduceSub,List.length_cons,List.length_nil]at*
     by_cases ca:0≤lo
     · by_cases cb:a.per<time-lo
       · simp only[if_pos (And.intro ca cb)]at hq ⊢
         simp (disch:=omega) only[go_sem,K.ae,↓reduceIte,cp,va,i1,i2,i3,en,el,ca,cb,gt_iff_lt,aE,hq,so,sol,wl,scl,List.length_set,Nat.reduceAdd,Nat.reduceSub]
       · simp only[if_neg (fun e:0≤lo∧a.per<time-lo=>cb e.2)]at hq ⊢
         simp (disch:=omega) only[go_sem,K.ae,↓reduceIte,cp,va,i1,i2,i3,en,el,ca,cb,gt_iff_lt,aE,hq,so,sol,wl,scl,List.length_set,Nat.reduceAdd,Nat.reduceSub]
     · simp only[if_neg (fun e:0≤lo∧a.per<time-lo=>ca e.1)]at hq ⊢
       simp (disch:=omega) only[go_sem,K.ae,↓reduceIte,cp,va,i1,i2,i3,en,el,ca,gt_iff_lt,aE,hq,so,sol,wl,scl,List.length_set,Nat.reduceAdd,Nat.reduceSub]
   · obtain⟨⟨places,roads⟩,time,people,tags,readers,numbers,looked,missed⟩:=x
     subst e1 e2
     simp only[az,Tru.e,Tru.cs,iN,ak,arI,jW,tLL,Rdr.e,List.cons_append,List.nil_append,List.map_cons,List.map_nil,LLe,tL,Nat.reduceAdd,Nat.reduceSub,List.length_cons,List.length_nil]at*
     by_cases ca:0≤lo
     · by_cases cb:a.per<time-lo
       · simp only[if_pos (And.intro ca cb)]at hq ⊢
         simp (disch:=omega) only[go_sem,K.ae,↓reduceIte,cp,va,i1,i2,i3,en,el,ca,cb,gt_iff_lt,aE,hq,so,sol,wl,scl,List.length_set,Nat.reduceAdd,Nat.reduceSub]
       · simp only[if_neg (fun e:0≤lo∧a.per<time-lo=>cb e.2)]at hq ⊢
         simp (disch:=omega) only[go_sem,K.ae,↓reduceIte,cp,va,i1,i2,i3,en,el,ca,cb,gt_iff_lt,aE,hq,so,sol,wl,scl,List.length_set,Nat.reduceAdd,Nat.reduceSub]
     · simp only[if_neg (fun e:0≤lo∧a.per<time-lo=>ca e.1)]at hq ⊢
       simp (disch:=omega) only[go_sem,K.ae,↓reduceIte,cp,va,i1,i2,i3,en,el,ca,gt_iff_lt,aE,hq,so,sol,wl,scl,List.length_set,Nat.reduceAdd,Nat.reduceSub]
   · obtain⟨⟨places,roads⟩,time,people,tags,readers,numbers,looked,missed⟩:=x
     subst e1 e2
     simp only[az,Tru.e,Tru.cs,iN,ak,arI,jW,tLL,Rdr.e,List.cons_append,List.nil_append,List.map_cons,List.map_nil,LLe,tL,Nat.reduceAdd,Nat.reduceSub,List.length_cons,List.length_nil]at*
     by_cases ca:0≤lo
     · by_cases cb:a.per<time-lo
       · simp only[if_pos (And.intro ca cb)]at hq ⊢
         simp (disch:=omega) only[go_sem,K.ae,↓reduceIte,cp,va,i1,i2,i3,en,el,ca,cb,gt_iff_lt,aE,hq,so,sol,wl,scl,List.length_set,Nat.reduceAdd,Nat.reduceSub]
       · simp only[if_neg (fun e:0≤lo∧a.per<time-lo=>cb e.2)]at hq ⊢
         simp (disch:=omega) only[go_sem,K.ae,↓reduceIte,cp,va,i1,i2,i3,en,el,ca,cb,gt_iff_lt,aE,hq,so,sol,wl,scl,List.length_set,Nat.reduceAdd,Nat.reduceSub]
     · simp only[if_neg (fun e:0≤lo∧a.per<time-lo=>ca e.1)]at hq ⊢
       simp (disch:=omega) only[go_sem,K.ae,↓reduceIte,cp,va,i1,i2,i3,en,el,ca,gt_iff_lt,aE,hq,so,sol,wl,scl,List.length_set,Nat.reduceAdd,Nat.reduceSub]
   · obtain⟨⟨places,roads⟩,time,people,tags,readers,numbers,looked,missed⟩:=x
     subst e1 e2
     simp only[az,Tru.e,Tru.cs,iN,ak,arI,jW,tLL,Rdr.e,List.cons_append,List.nil_append,List.map_cons,List.map_nil,LLe,tL,Nat.reduceAdd,Nat.reduceSub,List.length_cons,List.length_nil]at*
     by_cases ca:0≤lo
     · by_cases cb:a.per<time-lo
       · simp only[if_pos (And.intro ca cb)]at hq ⊢
         simp (disch:=omega) only[go_sem,K.ae,↓reduceIte,cp,va,i1,i2,i3,en,el,ca,cb,gt_iff_lt,aE,hq,so,sol,wl,scl,List.length_set,Nat.reduceAdd,Nat.reduceSub]
       · simp only[if_neg (fun e:0≤lo∧a.per<time-lo=>cb e.2)]at hq ⊢
         simp (disch:=omega) only[go_sem,K.ae,↓reduceIte,cp,va,i1,i2,i3,en,el,ca,cb,gt_iff_lt,aE,hq,so,sol,wl,scl,List.length_set,Nat.reduceAdd,Nat.reduceSub]
     · simp only[if_neg (fun e:0≤lo∧a.per<time-lo=>ca e.1)]at hq ⊢
       simp (disch:=omega) only[go_sem,K.ae,↓reduceIte,cp,va,i1,i2,i3,en,el,ca,gt_iff_lt,aE,hq,so,sol,wl,scl,List.length_set,Nat.reduceAdd,Nat.reduceSub]
   · simp only[List.length_cons]at wl2;omega
def rT(x:Tru)(a b:Rdr)(p p2:List Int)(m off:Int)(oN oL:Obj)(num:Int)(j:Nat)(st:St):Prop:=∃W:List Wlk,W.length≤j∧(∀i,i<j→(fv x.people a.pl a.miss m p) i=false)∧st=⟨[.und,I 0,I m,.und,.bp 0 0,.bp 1 0,.bp 2 0,.und,.bp 3 0,.bp 10 0,.und,.und,.bp 11 0,.und,.und,.und,.und,.und,.t (.sl (x.people.map Wlk.e)),I x.people.length,I j],[.box (x.cs.map .t),.box az,.box [I 0,I 0,I 0,.nil],.box [.t (tL a.pl),I a.per,I a.miss,I a.skew],.arr 4 false 0 [.t a.e,.t b.e],oN,oL,.arr 1 false 0 [.ref 8 0 p.length,.ref 9 0 p2.length],arI (bB (c8 x.people a.pl m p) p j),arI p2,.box (ak 4 x),.box [I 0,I num,I (x.time+off),.ref 13 0 (aD x.people a.pl m x.tags j).length],.arr 1 false 0 [],arI (aD x.people a.pl m x.tags j)]++(W.map fun w=> .box [I w.place,I w.kR,I w.left])⟩
def AO(x:Tru)(a b:Rdr)(p p2:List Int)(m off:Int)(oN oL:Obj)(num:Int)(q:Ex×St):Prop:=((List.range x.people.length).any (fv x.people a.pl a.miss m p)=true∧∃(v0 v3 v8 v9 v10:D) (vr:List D) (rest:ag),q=(.ret,⟨v0::I 0::I m::v3:: .bp 0 0:: .bp 1 0:: .bp 2 0::I 43::vr,.box (x.cs.map .t):: .box (x.cs.map .t):: .box [I 0,I 0,I 0,.nil]::rest⟩))∨((List.range x.people.length).any (fv x.people a.pl a.miss m p)=false∧∃st,rT x a b p p2 m off oN oL num x.people.length st∧q=(.exit 1,st))
theorem Ji{x:Tru}(h:x.ok){a b:Rdr}{p p2:List Int}(e1:x.readers=[a,b])(e2:x.missed=[p,p2])(m off:Int)(oN oL:Obj)(num:Int)(j:Nat)(st:St)(hj:j<x.people.length)(hp:rT x a b p p2 m off oN oL num j st):
 (∃st',fg false [0,3,7,10,11,13,14,15,16,17] st.H.length (exS aX K.aa st)=some st'∧rT x a b p p2 m off oN oL num (j+1) st')∨∃q,exS aX K.aa st=some q∧q.1≠ .normal∧AO x a b p p2 m off oN oL num q:=by
 have n3:=h.n3
 have tl:=h.tl
 have nl:=h.nl
 have ll:=h.ll
 have t0:=h.t0
 have t1:=h.t1
 have nb:=h.nb 0 (by rw[e1];simp)
 have mb:=h.mb 0 (by rw[e1];simp)
 have m2:=h.m2 0 (by rw[e1];simp)
 have rk:nth x.readers 0=a:=by rw[e1];rfl
 have mk:nth x.missed 0=p:=by rw[e2];rfl
 have ml:x.missed.length=2:=by rw[e2];rfl
 have rn:x.readers.length=2:=by rw[e1];rfl
 have ro:=h.r a (by rw[e1];simp)
 rw[rk,mk]at mb
 rw[mk]at m2
 obtain⟨rs,rl,rl1,rp1,rp2,rm1,rm2,rk1,rk2⟩:=ro
 have ex:(x.people.map Wlk.e)[j]?=some (nth x.people j).e:=aU _ hj
 have et:(x.tags.map (T.int .i64))[j]?=some (tI (nth x.tags j)):=aU _ (by omega)
 have hs:=gq a.pl (nth x.people j).place (by omega)
 have mbj:=mb j hj
 have sh:=jo m j
 have an:=jn m j
 obtain⟨W,wl,hb,rfl⟩:=hp
 have ql:=ef (c8 x.people a.pl m p) p j
 have qj:=lO (c8 x.people a.pl m p) p j j (Nat.le_refl _)
 have sl:=dY x.people a.pl m x.tags j
 by_cases hq:(fv x.people a.pl a.miss m p) j=true
 · have anyb:(List.range x.people.length).any (fv x.people a.pl a.miss m p)=true:=List.any_eq_true.2 ⟨j,List.mem_range.2 hj,hq⟩
   unfold fv cH eX at hq
   simp only[Bool.and_eq_true,decide_eq_true_eq]at hq
   obtain⟨⟨h1,h2⟩,h3⟩:=hq
   generalize bB _ p j=q at*
   generalize aD x.people a.pl m x.tags j=g at*
   rw[← qj]at h3
   have nse:nth (q.set j (nth q j+1)) j=nth q j+1:=aV (by omega)
   rw[decide_eq_true h1]at hs
   have key:∃(v0 v3:D) (vr:List D) (rest:ag),exS aX K.aa ⟨[.und,I 0,I m,.und,.bp 0 0,.bp 1 0,.bp 2 0,.und,.bp 3 0,.bp 10 0,.und,.und,.bp 11 0,.und,.und,.und,.und,.und,.t (.sl (x.people.map Wlk.e)),I x.people.length,I j],[.box (x.cs.map .t),.box az,.box [I 0,I 0,I 0,.nil],.box [.t (tL a.pl),I a.per,I a.miss,I a.skew],.arr 4 false 0 [.t a.e,.t b.e],oN,oL,.arr 1 false 0 [.ref 8 0 p.length,.ref 9 0 p2.length],arI q,arI p2,.box (ak 4 x),.box [I 0,I num,I (x.time+off),.ref 13 0 g.length],.arr 1 false 0 [],arI g]++(W.map fun w=> .box [I w.place,I w.kR,I w.left])⟩=some (.ret,⟨v0::I 0::I m::v3:: .bp 0 0:: .bp 1 0:: .bp 2 0::I 43::vr,.box (x.cs.map .t):: .box (x.cs.map .t):: .box [I 0,I 0,I 0,.nil]::rest⟩):=by
    generalize nth x.people j=y at*
    obtain⟨y1,y2,y3⟩:=y
    rcases W with _ | ⟨w,_ | ⟨w2,_ | ⟨w3,W⟩⟩⟩
    · obtain⟨⟨places,roads⟩,time,people,tags,readers,numbers,looked,missed⟩:=x
      simp only[az,Tru.cs,ak,Rdr.e,arI,List.cons_append,List.nil_append,List.map_cons,List.map_nil,LLe,tL,ml,rn,Nat.reduceAdd,Nat.reduceSub,List.length_cons,List.length_nil]at*
      simp (disch:=omega) only[go_sem,K.aa,↓reduceIte,ex,hs,sh,an,h2,nse,h3,aE,List.length_set,ql,List.map_append,List.map_cons,List.map_nil,List.length_append,List.length_singleton,gt_iff_lt,Nat.reduceAdd,Nat.reduceSub]
      exact⟨_,_,_,_,rfl⟩
    · obtain⟨⟨places,roads⟩,time,people,tags,readers,numbers,looked,missed⟩:=x
      simp only[az,Tru.cs,ak,Rdr.e,arI,List.cons_append,List.nil_append,List.map_cons,List.map_nil,LLe,tL,ml,rn,Nat.reduceAdd,Nat.reduceSub,List.length_cons,List.length_nil]at*
      simp (disch:=omega) only[go_sem,K.aa,↓reduceIte,ex,hs,sh,an,h2,nse,h3,aE,List.length_set,ql,List.map_append,List.map_cons,List.map_nil,List.length_append,List.length_singleton,gt_iff_lt,Nat.reduceAdd,Nat.reduceSub]
      exact⟨_,_,_,_,rfl⟩
    · obtain⟨⟨places,roads⟩,time,people,tags,readers,numbers,looked,missed⟩:=x
      simp only[az,Tru.cs,ak,Rdr.e,arI,List.cons_append,List.nil_append,List.map_cons,List.map_nil,LLe,tL,ml,rn,Nat.reduceAdd,Nat.reduceSub,List.length_cons,List.length_nil]at*
      simp (disch:=omega) only[go_sem,K.aa,↓reduceIte,ex,hs,sh,an,h2,nse,h3,aE,List.length_set,ql,List.map_append,List.map_cons,List.map_nil,List.length_append,List.length_singleton,gt_iff_lt,Nat.reduceAdd,Nat.reduceSub]
      exact⟨_,_,_,_,rfl⟩
    · simp only[List.length_cons]at wl;omega
   obtain⟨v0,v3,vr,rest,key⟩:=key
   exact .inr ⟨_,key,by simp,.inl ⟨anyb,v0,v3,v0,v0,v0,vr,rest,rfl⟩⟩
 · have hq:(fv x.people a.pl a.miss m p) j=false:=by simpa using hq
   have hb2:∀i,i<j+1→(fv x.people a.pl a.miss m p) i=false:=fun i hi=>by
    by_cases c:i=j
    · rw[c];exact hq
    · exact hb i (by omega)
   left
   by_cases h1:(nth x.people j).place∈a.pl
   · rw[decide_eq_true h1]at hs
     by_cases h2:ui m j=1
     · have nw:(c8 x.people a.pl m p) j=nth p j+1:=by unfold c8 cH eX;rw[decide_eq_true h1,decide_eq_true h2];rfl
       have nl0:¬a.miss<nth p j+1:=by
        unfold fv cH eX at hq
        rw[decide_eq_true h1,decide_eq_true h2]at hq
        simpa using hq
       have ss1:aD x.people a.pl m x.tags (j+1)=aD x.people a.pl m x.tags j:=by rw[aD];unfold cH eX;rw[decide_eq_true h1,decide_eq_true h2];rfl
       have rs1:bB (c8 x.people a.pl m p) p (j+1)=(bB (c8 x.people a.pl m p) p j).set j (nth p j+1):=by rw[bB,nw]
       generalize hy:nth x.people j=y at*
       rcases W with _ | ⟨w,_ | ⟨w2,_ | ⟨w3,W⟩⟩⟩
       · refine⟨_,?_,[]++[y],by simp only[List.length_cons,List.length_nil,List.length_append]at *;omega,hb2,rfl⟩
         rw[rs1,ss1]
         generalize bB _ p j=q at*
         generalize aD x.people a.pl m x.tags j=g at*
         rw[← qj]at nl0 ⊢
         have nse:nth (q.set j (nth q j+1)) j=nth q j+1:=aV (by omega)
         obtain⟨y1,y2,y3⟩:=y
         obtain⟨⟨places,roads⟩,time,people,tags,readers,numbers,looked,missed⟩:=x
         simp only[az,Tru.cs,ak,Rdr.e,arI,List.cons_append,List.nil_append,List.map_cons,List.map_nil,LLe,tL,ml,rn,Nat.reduceAdd,Nat.reduceSub,List.length_cons,List.length_nil]at*
         simp (disch:=omega) only[go_sem,K.aa,↓reduceIte,ex,hs,sh,an,h2,nse,nl0,aE,List.length_set,ql,List.map_append,List.map_cons,List.map_nil,List.length_append,List.length_singleton,gt_iff_lt,Nat.reduceAdd,Nat.reduceSub]
       · refine⟨_,?_,[w]++[y],by simp only[List.length_cons,List.length_nil,List.length_append]at *;omega,hb2,rfl⟩
         rw[rs1,ss1]
         generalize bB _ p j=q at*
         generalize aD x.people a.pl m x.tags j=g at*
         rw[← qj]at nl0 ⊢
         have nse:nth (q.set j (nth q j+1)) j=nth q j+1:=aV (by omega)
         obtain⟨y1,y2,y3⟩:=y
         obtain⟨⟨places,roads⟩,time,people,tags,readers,numbers,looked,missed⟩:=x
         simp only[az,Tru.cs,ak,Rdr.e,arI,List.cons_append,List.nil_append,List.map_cons,List.map_nil,LLe,tL,ml,rn,Nat.reduceAdd,Nat.reduceSub,List.length_cons,List.length_nil]at*
         simp (disch:=omega) only[go_sem,K.aa,↓reduceIte,ex,hs,sh,an,h2,nse,nl0,aE,List.length_set,ql,List.map_append,List.map_cons,List.map_nil,List.length_append,List.length_singleton,gt_iff_lt,Nat.reduceAdd,Nat.reduceSub]
       · refine⟨_,?_,[w,w2]++[y],by simp only[List.length_cons,List.length_nil,List.length_append]at *;omega,hb2,rfl⟩
         rw[rs1,ss1]
         generalize bB _ p j=q at*
         generalize aD x.people a.pl m x.tags j=g at*
         rw[← qj]at nl0 ⊢
         have nse:nth (q.set j (nth q j+1)) j=nth q j+1:=aV (by omega)
         obtain⟨y1,y2,y3⟩:=y
         obtain⟨⟨places,roads⟩,time,people,tags,readers,numbers,looked,missed⟩:=x
         simp only[az,Tru.cs,ak,Rdr.e,arI,List.cons_append,List.nil_append,List.map_cons,List.map_nil,LLe,tL,ml,rn,Nat.reduceAdd,Nat.reduceSub,List.length_cons,List.length_nil]at*
         simp (disch:=omega) only[go_sem,K.aa,↓reduceIte,ex,hs,sh,an,h2,nse,nl0,aE,List.length_set,ql,List.map_append,List.map_cons,List.map_nil,List.length_append,List.length_singleton,gt_iff_lt,Nat.reduceAdd,Nat.reduceSub]
       · simp only[List.length_cons]at wl;omega
     · have nw:(c8 x.people a.pl m p) j=0:=by unfold c8 cH eX;rw[decide_eq_true h1,decide_eq_false h2];rfl
       have ss1:aD x.people a.pl m x.tags (j+1)=aD x.people a.pl m x.tags j++[nth x.tags j]:=by rw[aD];unfold cH eX;rw[decide_eq_true h1,decide_eq_false h2];rfl
       have rs1:bB (c8 x.people a.pl m p) p (j+1)=(bB (c8 x.people a.pl m p) p j).set j 0:=by rw[bB,nw]
       generalize hy:nth x.people j=y at*
       rcases W with _ | ⟨w,_ | ⟨w2,_ | ⟨w3,W⟩⟩⟩
       · refine⟨_,?_,[]++[y],by simp only[List.length_cons,List.length_nil,List.length_append]at *;omega,hb2,rfl⟩
         rw[rs1,ss1]
         generalize bB _ p j=q at*
         generalize aD x.people a.pl m x.tags j=g at*
         obtain⟨y1,y2,y3⟩:=y
         obtain⟨⟨places,roads⟩,time,people,tags,readers,numbers,looked,missed⟩:=x
         simp only[az,Tru.cs,ak,Rdr.e,arI,List.cons_append,List.nil_append,List.map_cons,List.map_nil,LLe,tL,ml,rn,Nat.reduceAdd,Nat.reduceSub,List.length_cons,List.length_nil]at*
         simp (disch:=omega) only[go_sem,K.aa,↓reduceIte,ex,hs,sh,an,h2,et,aE,List.length_set,ql,List.map_append,List.map_cons,List.map_nil,List.length_append,List.length_singleton,gt_iff_lt,Nat.reduceAdd,Nat.reduceSub]
       · refine⟨_,?_,[w]++[y],by simp only[List.length_cons,List.length_nil,List.length_append]at *;omega,hb2,rfl⟩
         rw[rs1,ss1]
         generalize bB _ p j=q at*
         generalize aD x.people a.pl m x.tags j=g at*
         obtain⟨y1,y2,y3⟩:=y
         obtain⟨⟨places,roads⟩,time,people,tags,readers,numbers,looked,missed⟩:=x
         simp only[az,Tru.cs,ak,Rdr.e,arI,List.cons_append,List.nil_append,List.map_cons,List.map_nil,LLe,tL,ml,rn,Nat.reduceAdd,Nat.reduceSub,List.length_cons,List.length_nil]at*
         simp (disch:=omega) only[go_sem,K.aa,↓reduceIte,ex,hs,sh,an,h2,et,aE,List.length_set,ql,List.map_append,List.map_cons,List.map_nil,List.length_append,List.length_singleton,gt_iff_lt,Nat.reduceAdd,Nat.reduceSub]
       · refine⟨_,?_,[w,w2]++[y],by simp only[List.length_cons,List.length_nil,List.length_append]at *;omega,hb2,rfl⟩
         rw[rs1,ss1]
         generalize bB _ p j=q at*
         generalize aD x.people a.pl m x.tags j=g at*
         obtain⟨y1,y2,y3⟩:=y
         obtain⟨⟨places,roads⟩,time,people,tags,readers,numbers,looked,missed⟩:=x
         simp only[az,Tru.cs,ak,Rdr.e,arI,List.cons_append,List.nil_append,List.map_cons,List.map_nil,LLe,tL,ml,rn,Nat.reduceAdd,Nat.reduceSub,List.length_cons,List.length_nil]at*
         simp (disch:=omega) only[go_sem,K.aa,↓reduceIte,ex,hs,sh,an,h2,et,aE,List.length_set,ql,List.map_append,List.map_cons,List.map_nil,List.length_append,List.length_singleton,gt_iff_lt,Nat.reduceAdd,Nat.reduceSub]
       · simp only[List.length_cons]at wl;omega
   · have nw:(c8 x.people a.pl m p) j=0:=by unfold c8 cH eX;rw[decide_eq_false h1];rfl
     have ss1:aD x.people a.pl m x.tags (j+1)=aD x.people a.pl m x.tags j:=by rw[aD];unfold cH eX;rw[decide_eq_false h1];rfl
     have rs1:bB (c8 x.people a.pl m p) p (j+1)=(bB (c8 x.people a.pl m p) p j).set j 0:=by rw[bB,nw]
     rw[decide_eq_false h1]at hs
     by_cases h2:ui m j=1
     · generalize hy:nth x.people j=y at*
       rcases W with _ | ⟨w,_ | ⟨w2,_ | ⟨w3,W⟩⟩⟩
       · refine⟨_,?_,[]++[y],by simp only[List.length_cons,List.length_nil,List.length_append]at *;omega,hb2,rfl⟩
         rw[rs1,ss1]
         generalize bB _ p j=q at*
         generalize aD x.people a.pl m x.tags j=g at*
         obtain⟨y1,y2,y3⟩:=y
         obtain⟨⟨places,roads⟩,time,people,tags,readers,numbers,looked,missed⟩:=x
         simp only[az,Tru.cs,ak,Rdr.e,arI,List.cons_append,List.nil_append,List.map_cons,List.map_nil,LLe,tL,ml,rn,Nat.reduceAdd,Nat.reduceSub,List.length_cons,List.length_nil]at*
         simp (disch:=omega) only[go_sem,K.aa,↓reduceIte,ex,hs,sh,an,h2,aE,List.length_set,ql,List.map_append,List.map_cons,List.map_nil,List.length_append,List.length_singleton,gt_iff_lt,Nat.reduceAdd,Nat.reduceSub]
       · refine⟨_,?_,[w]++[y],by simp only[List.length_cons,List.length_nil,List.length_append]at *;omega,hb2,rfl⟩
         rw[rs1,ss1]
         generalize bB _ p j=q at*
         generalize aD x.people a.pl m x.tags j=g at*
         obtain⟨y1,y2,y3⟩:=y
         obtain⟨⟨places,roads⟩,time,people,tags,readers,numbers,looked,missed⟩:=x
         simp only[az,Tru.cs,ak,Rdr.e,arI,List.cons_append,List.nil_append,List.map_cons,List.map_nil,LLe,tL,ml,rn,Nat.reduceAdd,Nat.reduceSub,List.length_cons,List.length_nil]at*
         simp (disch:=omega) only[go_sem,K.aa,↓reduceIte,ex,hs,sh,an,h2,aE,List.length_set,ql,List.map_append,List.map_cons,List.map_nil,List.length_append,List.length_singleton,gt_iff_lt,Nat.reduceAdd,Nat.reduceSub]
       · refine⟨_,?_,[w,w2]++[y],by simp only[List.length_cons,List.length_nil,List.length_append]at *;omega,hb2,rfl⟩
         rw[rs1,ss1]
         generalize bB _ p j=q at*
         generalize aD x.people a.pl m x.tags j=g at*
         obtain⟨y1,y2,y3⟩:=y
         obtain⟨⟨places,roads⟩,time,people,tags,readers,numbers,looked,missed⟩:=x
         simp only[az,Tru.cs,ak,Rdr.e,arI,List.cons_append,List.nil_append,List.map_cons,List.map_nil,LLe,tL,ml,rn,Nat.reduceAdd,Nat.reduceSub,List.length_cons,List.length_nil]at*
         simp (disch:=omega) only[go_sem,K.aa,↓reduceIte,ex,hs,sh,an,h2,aE,List.length_set,ql,List.map_append,List.map_cons,List.map_nil,List.length_append,List.length_singleton,gt_iff_lt,Nat.reduceAdd,Nat.reduceSub]
       · simp only[List.length_cons]at wl;omega
     · generalize hy:nth x.people j=y at*
       rcases W with _ | ⟨w,_ | ⟨w2,_ | ⟨w3,W⟩⟩⟩
       · refine⟨_,?_,[]++[y],by simp only[List.length_cons,List.length_nil,List.length_append]at *;omega,hb2,rfl⟩
         rw[rs1,ss1]
         generalize bB _ p j=q at*
         generalize aD x.people a.pl m x.tags j=g at*
         obtain⟨y1,y2,y3⟩:=y
         obtain⟨⟨places,roads⟩,time,people,tags,readers,numbers,looked,missed⟩:=x
         simp only[az,Tru.cs,ak,Rdr.e,arI,List.cons_append,List.nil_append,List.map_cons,List.map_nil,LLe,tL,ml,rn,Nat.reduceAdd,Nat.reduceSub,List.length_cons,List.length_nil]at*
         simp (disch:=omega) only[go_sem,K.aa,↓reduceIte,ex,hs,sh,an,h2,aE,List.length_set,ql,List.map_append,List.map_cons,List.map_nil,List.length_append,List.length_singleton,gt_iff_lt,Nat.reduceAdd,Nat.reduceSub]
       · refine⟨_,?_,[w]++[y],by simp only[List.length_cons,List.length_nil,List.length_append]at *;omega,hb2,rfl⟩
         rw[rs1,ss1]
         generalize bB _ p j=q at*
         generalize aD x.people a.pl m x.tags j=g at*
         obtain⟨y1,y2,y3⟩:=y
         obtain⟨⟨places,roads⟩,time,people,tags,readers,numbers,looked,missed⟩:=x
         simp only[az,Tru.cs,ak,Rdr.e,arI,List.cons_append,List.nil_append,List.map_cons,List.map_nil,LLe,tL,ml,rn,Nat.reduceAdd,Nat.reduceSub,List.length_cons,List.length_nil]at*
         simp (disch:=omega) only[go_sem,K.aa,↓reduceIte,ex,hs,sh,an,h2,aE,List.length_set,ql,List.map_append,List.map_cons,List.map_nil,List.length_append,List.length_singleton,gt_iff_lt,Nat.reduceAdd,Nat.reduceSub]
       · refine⟨_,?_,[w,w2]++[y],by simp only[List.length_cons,List.length_nil,List.length_append]at *;omega,hb2,rfl⟩
         rw[rs1,ss1]
         generalize bB _ p j=q at*
         generalize aD x.people a.pl m x.tags j=g at*
         obtain⟨y1,y2,y3⟩:=y
         obtain⟨⟨places,roads⟩,time,people,tags,readers,numbers,looked,missed⟩:=x
         simp only[az,Tru.cs,ak,Rdr.e,arI,List.cons_append,List.nil_append,List.map_cons,List.map_nil,LLe,tL,ml,rn,Nat.reduceAdd,Nat.reduceSub,List.length_cons,List.length_nil]at*
         simp (disch:=omega) only[go_sem,K.aa,↓reduceIte,ex,hs,sh,an,h2,aE,List.length_set,ql,List.map_append,List.map_cons,List.map_nil,List.length_append,List.length_singleton,gt_iff_lt,Nat.reduceAdd,Nat.reduceSub]
       · simp only[List.length_cons]at wl;omega
theorem Jj{x:Tru}(h:x.ok){a b:Rdr}{p p2:List Int}(e1:x.readers=[a,b])(e2:x.missed=[p,p2])(m off:Int)(oN oL:Obj)(num:Int)(z0 z3 z7 z10 z11 z13 z14 z15 z16 z17:D):∃q,exS aX K.ee ⟨[z0,I 0,I m,z3,.bp 0 0,.bp 1 0,.bp 2 0,z7,.bp 3 0,.bp 10 0,z10,z11,.bp 11 0,z13,z14,z15,z16,z17,.t (.sl (x.people.map Wlk.e)),I x.people.length,I 0],[.box (x.cs.map .t),.box az,.box [I 0,I 0,I 0,.nil],.box [.t (tL a.pl),I a.per,I a.miss,I a.skew],.arr 4 false 0 [.t a.e,.t b.e],oN,oL,.arr 1 false 0 [.ref 8 0 p.length,.ref 9 0 p2.length],arI p,arI p2,.box (ak 4 x),.box [I 0,I num,I (x.time+off),.ref 13 0 0],.arr 1 false 0 [],arI ([]:List Int)]⟩=some q∧AO x a b p p2 m off oN oL num q:=by
 have n3:=h.n3
 have tl:=h.tl
 have nl:=h.nl
 have ll:=h.ll
 have t0:=h.t0
 have t1:=h.t1
 have nb:=h.nb 0 (by rw[e1];simp)
 have mb:=h.mb 0 (by rw[e1];simp)
 have m2:=h.m2 0 (by rw[e1];simp)
 have rk:nth x.readers 0=a:=by rw[e1];rfl
 have mk:nth x.missed 0=p:=by rw[e2];rfl
 have ml:x.missed.length=2:=by rw[e2];rfl
 have rn:x.readers.length=2:=by rw[e1];rfl
 have ro:=h.r a (by rw[e1];simp)
 rw[rk,mk]at mb
 rw[mk]at m2
 obtain⟨rs,rl,rl1,rp1,rp2,rm1,rm2,rk1,rk2⟩:=ro
 refine jm (rT x a b p p2 m off oN oL num) x.people.length _ ⟨[],Nat.le_refl _,fun i hi=>absurd hi (by omega),rfl⟩ (fun j st hj hp=>Ji h e1 e2 m off oN oL num j st hj hp) ?_
 intro st hp
 refine⟨(.exit 1,st),?_,by simp,.inr ⟨?_,st,hp,rfl⟩⟩
 · obtain⟨W,wl,hb,rfl⟩:=hp
   have wl:=Nat.le_trans wl n3
   generalize bB _ p _=q at*
   generalize aD x.people a.pl m x.tags _=g at*
   rcases W with _ | ⟨w,_ | ⟨w2,_ | ⟨w3,_ | ⟨w4,W⟩⟩⟩⟩
   · obtain⟨⟨places,roads⟩,time,people,tags,readers,numbers,looked,missed⟩:=x
     simp only[az,Tru.cs,ak,Rdr.e,arI,List.cons_append,List.nil_append,List.map_cons,List.map_nil,LLe,tL,ml,rn,Nat.reduceAdd,Nat.reduceSub,List.length_cons,List.length_nil]at*
     simp (disch:=omega) only[go_sem,K.aa,↓reduceIte,Nat.reduceAdd,Nat.reduceSub]
   · obtain⟨⟨places,roads⟩,time,people,tags,readers,numbers,looked,missed⟩:=x
     simp only[az,Tru.cs,ak,Rdr.e,arI,List.cons_append,List.nil_append,List.map_cons,List.map_nil,LLe,tL,ml,rn,Nat.reduceAdd,Nat.reduceSub,List.length_cons,List.length_nil]at*
     simp (disch:=omega) only[go_sem,K.aa,↓reduceIte,Nat.reduceAdd,Nat.reduceSub]
   · obtain⟨⟨places,roads⟩,time,people,tags,readers,numbers,looked,missed⟩:=x
     simp only[az,Tru.cs,ak,Rdr.e,arI,List.cons_append,List.nil_append,List.map_cons,List.map_nil,LLe,tL,ml,rn,Nat.reduceAdd,Nat.reduceSub,List.length_cons,List.length_nil]at*
     simp (disch:=omega) only[go_sem,K.aa,↓reduceIte,Nat.reduceAdd,Nat.reduceSub]
   · obtain⟨⟨places,roads⟩,time,people,tags,readers,numbers,looked,missed⟩:=x
     simp only[az,Tru.cs,ak,Rdr.e,arI,List.cons_append,List.nil_append,List.map_cons,List.map_nil,LLe,tL,ml,rn,Nat.reduceAdd,Nat.reduceSub,List.length_cons,List.length_nil]at*
     simp (disch:=omega) only[go_sem,K.aa,↓reduceIte,Nat.reduceAdd,Nat.reduceSub]
   · simp only[List.length_cons]at wl;omega
 · obtain⟨W,wl,hb,rfl⟩:=hp
   rw[List.any_eq_false]
   intro i hi
   rw[hb i (List.mem_range.1 hi)]
   decide
set_option maxHeartbeats 4000000 in
theorem AP{x:Tru}(h:x.ok){a b:Rdr}{p p2:List Int}(e1:x.readers=[a,b])(e2:x.missed=[p,p2])(m off:Int)(o1: -a.skew≤off)(o2:off≤a.skew)(o3:0≤x.time+off)(o4:x.time+off≤2147483648):
 aX 0 N.ae [.t x.e,I 0,I m,I off] []=some (if p9 x 0 m then .tup [.t x.e,.t (iN 0 0 0 []),I 43]else .tup [.t (kS x 0 m).e,.t (iN 0 (rR x 0) (x.time+off) (eZ (aD x.people a.pl m x.tags x.people.length))),I 0],[]):=by
 have n3:=h.n3
 have tl:=h.tl
 have nl:=h.nl
 have ll:=h.ll
 have t0:=h.t0
 have t1:=h.t1
 have nb:=h.nb 0 (by rw[e1];simp)
 have mb:=h.mb 0 (by rw[e1];simp)
 have m2:=h.m2 0 (by rw[e1];simp)
 have rk:nth x.readers 0=a:=by rw[e1];rfl
 have mk:nth x.missed 0=p:=by rw[e2];rfl
 have ml:x.missed.length=2:=by rw[e2];rfl
 have rn:x.readers.length=2:=by rw[e1];rfl
 have ro:=h.r a (by rw[e1];simp)
 rw[rk,mk]at mb
 rw[mk]at m2
 obtain⟨rs,rl,rl1,rp1,rp2,rm1,rm2,rk1,rk2⟩:=ro
 have sz:=h.sz
 have cp:=qT sz e1 e2
 have va:=gz h
 have lpL:=Jj h e1 e2 m off
 have scl:∀(y:Tru) (r:T) (v:Int),([D.t y.e,D.t r,I v].all cG)=false:=fun _ _ _=>rfl
 have sl:=dY x.people a.pl m x.tags x.people.length
 have so:=nz 0 (aD x.people a.pl m x.tags x.people.length) (by omega)
 have sol:=eu (aD x.people a.pl m x.tags x.people.length)
 have i1:=eP 0 0 ((2:Int)-1)
 have i2:=eP off (0-a.skew) a.skew
 have i3:=eP (x.time+off) 0 2147483648
 rw[decide_eq_true (by omega)]at i1 i2 i3
 unfold p9 kS rR
 rw[rk,mk]
 have en:(x.numbers.map (T.int .i64))[0]?=some (tI (nth x.numbers 0)):=aU _ (by omega)
 have el:(x.looked.map (T.int .i64))[0]?=some (tI (nth x.looked 0)):=aU _ (by omega)
 generalize nth x.numbers 0=nu at*
 generalize nth x.looked 0=lo at*
 refine aO K.ea rfl ?_
 have qe:∀(b:Prop) [Decidable b],(nu+if b then 2 else 1)=if b then nu+2 else nu+1:=fun b _=>by split<;>rfl
 have wl:=ef (c8 x.people a.pl m p) p x.people.length
 by_cases bq:(List.range x.people.length).any (fv x.people a.pl a.miss m p)=true
 · rw[if_pos bq]
   obtain⟨⟨places,roads⟩,time,people,tags,readers,numbers,looked,missed⟩:=x
   subst e1 e2
   simp only[az,Tru.e,Tru.cs,ak,arI,jW,tLL,Rdr.e,List.map_cons,List.map_nil,LLe,tL]at*
   by_cases ca:0≤lo
   · by_cases cb:a.per<time-lo
     · simp (disch:=omega) only[go_sem,K.ae,↓reduceIte,cp,va,i1,i2,i3,en,el,ca,cb,gt_iff_lt,aE,List.length_set,Nat.reduceAdd,Nat.reduceSub]
       refine cF _ (lpL _ _ _ _ _ _ _ _ _ _ _ _ _) ?_
       rintro q (⟨_,v0,v3,_,_,_,vr,rest,rfl⟩ | ⟨n,_⟩)
       · simp (disch:=omega) only[go_sem,K.ae,↓reduceIte,scl,Nat.reduceAdd,Nat.reduceSub]
         rfl
       · rw[n]at bq;cases bq
     · simp (disch:=omega) only[go_sem,K.ae,↓reduceIte,cp,va,i1,i2,i3,en,el,ca,cb,gt_iff_lt,aE,List.length_set,Nat.reduceAdd,Nat.reduceSub]
       refine cF _ (lpL _ _ _ _ _ _ _ _ _ _ _ _ _) ?_
       rintro q (⟨_,v0,v3,_,_,_,vr,rest,rfl⟩ | ⟨n,_⟩)
       · simp (disch:=omega) only[go_sem,K.ae,↓reduceIte,scl,Nat.reduceAdd,Nat.reduceSub]
         rfl
       · rw[n]at bq;cases bq
   · simp (disch:=omega) only[go_sem,K.ae,↓reduceIte,cp,va,i1,i2,i3,en,el,ca,gt_iff_lt,aE,List.length_set,Nat.reduceAdd,Nat.reduceSub]
     refine cF _ (lpL _ _ _ _ _ _ _ _ _ _ _ _ _) ?_
     rintro q (⟨_,v0,v3,_,_,_,vr,rest,rfl⟩ | ⟨n,_⟩)
     · simp (disch:=omega) only[go_sem,K.ae,↓reduceIte,scl,Nat.reduceAdd,Nat.reduceSub]
       rfl
     · rw[n]at bq;cases bq
 · rw[if_neg bq]
   have qa:(x.numbers.set 0 ((nu+if 0≤lo∧a.per<x.time-lo then 2 else 1).tmod 65536)).length=x.numbers.length:=List.length_set ..
   generalize hg:aD x.people a.pl m x.tags x.people.length=g at*
   obtain⟨q,hq,hQ⟩:=lpL (arI (x.numbers.set 0 ((nu+if 0≤lo∧a.per<x.time-lo then 2 else 1).tmod 65536))) (arI (x.looked.set 0 x.time)) ((nu+if 0≤lo∧a.per<x.time-lo then 2 else 1).tmod 65536) (.t x.e) (I off) (I 0) (if 0≤lo∧a.per<x.time-lo then I 2 else I 1) (I ((nu+if 0≤lo∧a.per<x.time-lo then 2 else 1).tmod 65536)) .und .und .und .und .und
   rcases hQ with⟨n,_⟩ | ⟨_,st,⟨W,wl2,hb,rfl⟩,rfl⟩
   · exact absurd n bq
   rw[hg]at hq
   generalize bB _ p _=w at*
   rcases W with _ | ⟨w1,_ | ⟨w2,_ | ⟨w3,_ | ⟨w4,W⟩⟩⟩⟩
   · obtain⟨⟨places,roads⟩,time,people,tags,readers,numbers,looked,missed⟩:=x
     subst e1 e2
     simp only[az,Tru.e,Tru.cs,iN,ak,arI,jW,tLL,Rdr.e,List.cons_append,List.nil_append,List.map_cons,List.map_nil,LLe,tL,Nat.reduceAdd,Nat.reduceSub,List.length_cons,List.length_nil]at*
     by_cases ca:0≤lo
     · by_cases cb:a.per<time-lo
       · simp only[if_pos (And.intro ca cb)]at hq ⊢
         simp (disch:=omega) only[go_sem,K.ae,↓reduceIte,cp,va,i1,i2,i3,en,el,ca,cb,gt_iff_lt,aE,hq,so,sol,wl,scl,List.length_set,Nat.reduceAdd,Nat.reduceSub]
       · simp only[if_neg (fun e:0≤lo∧a.per<time-lo=>cb e.2)]at hq ⊢
         simp (disch:=omega) only[go_sem,K.ae,↓reduceIte,cp,va,i1,i2,i3,en,el,ca,cb,gt_iff_lt,aE,hq,so,sol,wl,scl,List.length_set,Nat.reduceAdd,Nat.reduceSub]
     · simp only[if_neg (fun e:0≤lo∧a.per<time-lo=>ca e.1)]at hq ⊢
       simp (disch:=omega) only[go_sem,K.ae,↓reduceIte,cp,va,i1,i2,i3,en,el,ca,gt_iff_lt,aE,hq,so,sol,wl,scl,List.length_set,Nat.reduceAdd,Nat.reduceSub]
   · obtain⟨⟨places,roads⟩,time,people,tags,readers,numbers,looked,missed⟩:=x
     subst e1 e2
     simp only[az,Tru.e,Tru.cs,iN,ak,arI,jW,tLL,Rdr.e,List.cons_append,List.nil_append,List.map_cons,List.map_nil,LLe,tL,Nat.reduceAdd,Nat.reduceSub,List.length_cons,List.length_nil]at*
     by_cases ca:0≤lo
     · by_cases cb:a.per<time-lo
       · simp only[if_pos (And.intro ca cb)]at hq ⊢
         simp (disch:=omega) only[go_sem,K.ae,↓reduceIte,cp,va,i1,i2,i3,en,el,ca,cb,gt_iff_lt,aE,hq,so,sol,wl,scl,List.length_set,Nat.reduceAdd,Nat.reduceSub]
       · simp only[if_neg (fun e:0≤lo∧a.per<time-lo=>cb e.2)]at hq ⊢
         simp (disch:=omega) only[go_sem,K.ae,↓reduceIte,cp,va,i1,i2,i3,en,el,ca,cb,gt_iff_lt,aE,hq,so,sol,wl,scl,List.length_set,Nat.reduceAdd,Nat.reduceSub]
     · simp only[if_neg (fun e:0≤lo∧a.per<time-lo=>ca e.1)]at hq ⊢
       simp (disch:=omega) only[go_sem,K.ae,↓reduceIte,cp,va,i1,i2,i3,en,el,ca,gt_iff_lt,aE,hq,so,sol,wl,scl,List.length_set,Nat.reduceAdd,Nat.reduceSub]
   · obtain⟨⟨places,roads⟩,time,people,tags,readers,numbers,looked,missed⟩:=x
     subst e1 e2
     simp only[az,Tru.e,Tru.cs,iN,ak,arI,jW,tLL,Rdr.e,List.cons_append,List.nil_append,List.map_cons,List.map_nil,LLe,tL,Nat.reduceAdd,Nat.reduceSub,List.length_cons,List.length_nil]at*
     by_cases ca:0≤lo
     · by_cases cb:a.per<time-lo
       · simp only[if_pos (And.intro ca cb)]at hq ⊢
         simp (disch:=omega) only[go_sem,K.ae,↓reduceIte,cp,va,i1,i2,i3,en,el,ca,cb,gt_iff_lt,aE,hq,so,sol,wl,scl,List.length_set,Nat.reduceAdd,Nat.reduceSub]
       · simp only[if_neg (fun e:0≤lo∧a.per<time-lo=>cb e.2)]at hq ⊢
         simp (disch:=omega) only[go_sem,K.ae,↓reduceIte,cp,va,i1,i2,i3,en,el,ca,cb,gt_iff_lt,aE,hq,so,sol,wl,scl,List.length_set,Nat.reduceAdd,Nat.reduceSub]
     · simp only[if_neg (fun e:0≤lo∧a.per<time-lo=>ca e.1)]at hq ⊢
       simp (disch:=omega) only[go_sem,K.ae,↓reduceIte,cp,va,i1,i2,i3,en,el,ca,gt_iff_lt,aE,hq,so,sol,wl,scl,List.length_set,Nat.reduceAdd,Nat.reduceSub]
   · obtain⟨⟨places,roads⟩,time,people,tags,readers,numbers,looked,missed⟩:=x
     subst e1 e2
     simp only[az,Tru.e,Tru.cs,iN,ak,arI,jW,tLL,Rdr.e,List.cons_append,List.nil_append,List.map_cons,List.map_nil,LLe,tL,Nat.reduceAdd,Nat.reduceSub,List.length_cons,List.length_nil]at*
     by_cases ca:0≤lo
     · by_cases cb:a.per<time-lo
       · simp only[if_pos (And.intro ca cb)]at hq ⊢
         simp (disch:=omega) only[go_sem,K.ae,↓reduceIte,cp,va,i1,i2,i3,en,el,ca,cb,gt_iff_lt,aE,hq,so,sol,wl,scl,List.length_set,Nat.reduceAdd,Nat.reduceSub]
       · simp only[if_neg (fun e:0≤lo∧a.per<time-lo=>cb e.2)]at hq ⊢
         simp (disch:=omega) only[go_sem,K.ae,↓reduceIte,cp,va,i1,i2,i3,en,el,ca,cb,gt_iff_lt,aE,hq,so,sol,wl,scl,List.length_set,Nat.reduceAdd,Nat.reduceSub]
     · simp only[if_neg (fun e:0≤lo∧a.per<time-lo=>ca e.1)]at hq ⊢
       simp (disch:=omega) only[go_sem,K.ae,↓reduceIte,cp,va,i1,i2,i3,en,el,ca,gt_iff_lt,aE,hq,so,sol,wl,scl,List.length_set,Nat.reduceAdd,Nat.reduceSub]
   · simp only[List.length_cons]at wl2;omega
def rU(x:Tru)(a b:Rdr)(p p2:List Int)(m off:Int)(oN oL:Obj)(num:Int)(j:Nat)(st:St):Prop:=∃W:List Wlk,W.length≤j∧(∀i,i<j→(fv x.people b.pl b.miss m p2) i=false)∧st=⟨[.und,I 1,I m,.und,.bp 0 0,.bp 1 0,.bp 2 0,.und,.bp 3 0,.bp 10 0,.und,.und,.bp 11 0,.und,.und,.und,.und,.und,.t (.sl (x.people.map Wlk.e)),I x.people.length,I j],[.box (x.cs.map .t),.box az,.box [I 0,I 0,I 0,.nil],.box [.t (tL b.pl),I b.per,I b.miss,I b.skew],.arr 4 false 0 [.t a.e,.t b.e],oN,oL,.arr 1 false 0 [.ref 8 0 p.length,.ref 9 0 p2.length],arI p,arI (bB (c8 x.people b.pl m p2) p2 j),.box (ak 4 x),.box [I 1,I num,I (x.time+off),.ref 13 0 (aD x.people b.pl m x.tags j).length],.arr 1 false 0 [],arI (aD x.people b.pl m x.tags j)]++(W.map fun w=> .box [I w.place,I w.kR,I w.left])⟩
def AQ(x:Tru)(a b:Rdr)(p p2:List Int)(m off:Int)(oN oL:Obj)(num:Int)(q:Ex×St):Prop:=((List.range x.people.length).any (fv x.people b.pl b.miss m p2)=true∧∃(v0 v3 v8 v9 v10:D) (vr:List D) (rest:ag),q=(.ret,⟨v0::I 1::I m::v3:: .bp 0 0:: .bp 1 0:: .bp 2 0::I 43::vr,.box (x.cs.map .t):: .box (x.cs.map .t):: .box [I 0,I 0,I 0,.nil]::rest⟩))∨((List.range x.people.length).any (fv x.people b.pl b.miss m p2)=false∧∃st,rU x a b p p2 m off oN oL num x.people.length st∧q=(.exit 1,st))
theorem Jk{x:Tru}(h:x.ok){a b:Rdr}{p p2:List Int}(e1:x.readers=[a,b])(e2:x.missed=[p,p2])(m off:Int)(oN oL:Obj)(num:Int)(j:Nat)(st:St)(hj:j<x.people.length)(hp:rU x a b p p2 m off oN oL num j st):
 (∃st',fg false [0,3,7,10,11,13,14,15,16,17] st.H.length (exS aX K.aa st)=some st'∧rU x a b p p2 m off oN oL num (j+1) st')∨∃q,exS aX K.aa st=some q∧q.1≠ .normal∧AQ x a b p p2 m off oN oL num q:=by
 have n3:=h.n3
 have tl:=h.tl
 have nl:=h.nl
 have ll:=h.ll
 have t0:=h.t0
 have t1:=h.t1
 have nb:=h.nb 1 (by rw[e1];simp)
 have mb:=h.mb 1 (by rw[e1];simp)
 have m2:=h.m2 1 (by rw[e1];simp)
 have rk:nth x.readers 1=b:=by rw[e1];rfl
 have mk:nth x.missed 1=p2:=by rw[e2];rfl
 have ml:x.missed.length=2:=by rw[e2];rfl
 have rn:x.readers.length=2:=by rw[e1];rfl
 have ro:=h.r b (by rw[e1];simp)
 rw[rk,mk]at mb
 rw[mk]at m2
 obtain⟨rs,rl,rl1,rp1,rp2,rm1,rm2,rk1,rk2⟩:=ro
 have ex:(x.people.map Wlk.e)[j]?=some (nth x.people j).e:=aU _ hj
 have et:(x.tags.map (T.int .i64))[j]?=some (tI (nth x.tags j)):=aU _ (by omega)
 have hs:=gq b.pl (nth x.people j).place (by omega)
 have mbj:=mb j hj
 have sh:=jo m j
 have an:=jn m j
 obtain⟨W,wl,hb,rfl⟩:=hp
 have ql:=ef (c8 x.people b.pl m p2) p2 j
 have qj:=lO (c8 x.people b.pl m p2) p2 j j (Nat.le_refl _)
 have sl:=dY x.people b.pl m x.tags j
 by_cases hq:(fv x.people b.pl b.miss m p2) j=true
 · have anyb:(List.range x.people.length).any (fv x.people b.pl b.miss m p2)=true:=List.any_eq_true.2 ⟨j,List.mem_range.2 hj,hq⟩
   unfold fv cH eX at hq
   simp only[Bool.and_eq_true,decide_eq_true_eq]at hq
   obtain⟨⟨h1,h2⟩,h3⟩:=hq
   generalize bB _ p2 j=q at*
   generalize aD x.people b.pl m x.tags j=g at*
   rw[← qj]at h3
   have nse:nth (q.set j (nth q j+1)) j=nth q j+1:=aV (by omega)
   rw[decide_eq_true h1]at hs
   have key:∃(v0 v3:D) (vr:List D) (rest:ag),exS aX K.aa ⟨[.und,I 1,I m,.und,.bp 0 0,.bp 1 0,.bp 2 0,.und,.bp 3 0,.bp 10 0,.und,.und,.bp 11 0,.und,.und,.und,.und,.und,.t (.sl (x.people.map Wlk.e)),I x.people.length,I j],[.box (x.cs.map .t),.box az,.box [I 0,I 0,I 0,.nil],.box [.t (tL b.pl),I b.per,I b.miss,I b.skew],.arr 4 false 0 [.t a.e,.t b.e],oN,oL,.arr 1 false 0 [.ref 8 0 p.length,.ref 9 0 p2.length],arI p,arI q,.box (ak 4 x),.box [I 1,I num,I (x.time+off),.ref 13 0 g.length],.arr 1 false 0 [],arI g]++(W.map fun w=> .box [I w.place,I w.kR,I w.left])⟩=some (.ret,⟨v0::I 1::I m::v3:: .bp 0 0:: .bp 1 0:: .bp 2 0::I 43::vr,.box (x.cs.map .t):: .box (x.cs.map .t):: .box [I 0,I 0,I 0,.nil]::rest⟩):=by
    generalize nth x.people j=y at*
    obtain⟨y1,y2,y3⟩:=y
    rcases W with _ | ⟨w,_ | ⟨w2,_ | ⟨w3,W⟩⟩⟩
    · obtain⟨⟨places,roads⟩,time,people,tags,readers,numbers,looked,missed⟩:=x
      simp only[az,Tru.cs,ak,Rdr.e,arI,List.cons_append,List.nil_append,List.map_cons,List.map_nil,LLe,tL,ml,rn,Nat.reduceAdd,Nat.reduceSub,List.length_cons,List.length_nil]at*
      simp (disch:=omega) only[go_sem,K.aa,↓reduceIte,ex,hs,sh,an,h2,nse,h3,aE,List.length_set,ql,List.map_append,List.map_cons,List.map_nil,List.length_append,List.length_singleton,gt_iff_lt,Nat.reduceAdd,Nat.reduceSub]
      exact⟨_,_,_,_,rfl⟩
    · obtain⟨⟨places,roads⟩,time,people,tags,readers,numbers,looked,missed⟩:=x
      simp only[az,Tru.cs,ak,Rdr.e,arI,List.cons_append,List.nil_append,List.map_cons,List.map_nil,LLe,tL,ml,rn,Nat.reduceAdd,Nat.reduceSub,List.length_cons,List.length_nil]at*
      simp (disch:=omega) only[go_sem,K.aa,↓reduceIte,ex,hs,sh,an,h2,nse,h3,aE,List.length_set,ql,List.map_append,List.map_cons,List.map_nil,List.length_append,List.length_singleton,gt_iff_lt,Nat.reduceAdd,Nat.reduceSub]
      exact⟨_,_,_,_,rfl⟩
    · obtain⟨⟨places,roads⟩,time,people,tags,readers,numbers,looked,missed⟩:=x
      simp only[az,Tru.cs,ak,Rdr.e,arI,List.cons_append,List.nil_append,List.map_cons,List.map_nil,LLe,tL,ml,rn,Nat.reduceAdd,Nat.reduceSub,List.length_cons,List.length_nil]at*
      simp (disch:=omega) only[go_sem,K.aa,↓reduceIte,ex,hs,sh,an,h2,nse,h3,aE,List.length_set,ql,List.map_append,List.map_cons,List.map_nil,List.length_append,List.length_singleton,gt_iff_lt,Nat.reduceAdd,Nat.reduceSub]
      exact⟨_,_,_,_,rfl⟩
    · simp only[List.length_cons]at wl;omega
   obtain⟨v0,v3,vr,rest,key⟩:=key
   exact .inr ⟨_,key,by simp,.inl ⟨anyb,v0,v3,v0,v0,v0,vr,rest,rfl⟩⟩
 · have hq:(fv x.people b.pl b.miss m p2) j=false:=by simpa using hq
   have hb2:∀i,i<j+1→(fv x.people b.pl b.miss m p2) i=false:=fun i hi=>by
    by_cases c:i=j
    · rw[c];exact hq
    · exact hb i (by omega)
   left
   by_cases h1:(nth x.people j).place∈b.pl
   · rw[decide_eq_true h1]at hs
     by_cases h2:ui m j=1
     · have nw:(c8 x.people b.pl m p2) j=nth p2 j+1:=by unfold c8 cH eX;rw[decide_eq_true h1,decide_eq_true h2];rfl
       have nl0:¬b.miss<nth p2 j+1:=by
        unfold fv cH eX at hq
        rw[decide_eq_true h1,decide_eq_true h2]at hq
        simpa using hq
       have ss1:aD x.people b.pl m x.tags (j+1)=aD x.people b.pl m x.tags j:=by rw[aD];unfold cH eX;rw[decide_eq_true h1,decide_eq_true h2];rfl
       have rs1:bB (c8 x.people b.pl m p2) p2 (j+1)=(bB (c8 x.people b.pl m p2) p2 j).set j (nth p2 j+1):=by rw[bB,nw]
       generalize hy:nth x.people j=y at*
       rcases W with _ | ⟨w,_ | ⟨w2,_ | ⟨w3,W⟩⟩⟩
       · refine⟨_,?_,[]++[y],by simp only[List.length_cons,List.length_nil,List.length_append]at *;omega,hb2,rfl⟩
         rw[rs1,ss1]
         generalize bB _ p2 j=q at*
         generalize aD x.people b.pl m x.tags j=g at*
         rw[← qj]at nl0 ⊢
         have nse:nth (q.set j (nth q j+1)) j=nth q j+1:=aV (by omega)
         obtain⟨y1,y2,y3⟩:=y
         obtain⟨⟨places,roads⟩,time,people,tags,readers,numbers,looked,missed⟩:=x
         simp only[az,Tru.cs,ak,Rdr.e,arI,List.cons_append,List.nil_append,List.map_cons,List.map_nil,LLe,tL,ml,rn,Nat.reduceAdd,Nat.reduceSub,List.length_cons,List.length_nil]at*
         simp (disch:=omega) only[go_sem,K.aa,↓reduceIte,ex,hs,sh,an,h2,nse,nl0,aE,List.length_set,ql,List.map_append,List.map_cons,List.map_nil,List.length_append,List.length_singleton,gt_iff_lt,Nat.reduceAdd,Nat.reduceSub]
       · refine⟨_,?_,[w]++[y],by simp only[List.length_cons,List.length_nil,List.length_append]at *;omega,hb2,rfl⟩
         rw[rs1,ss1]
         generalize bB _ p2 j=q at*
         generalize aD x.people b.pl m x.tags j=g at*
         rw[← qj]at nl0 ⊢
         have nse:nth (q.set j (nth q j+1)) j=nth q j+1:=aV (by omega)
         obtain⟨y1,y2,y3⟩:=y
         obtain⟨⟨places,roads⟩,time,people,tags,readers,numbers,looked,missed⟩:=x
         simp only[az,Tru.cs,ak,Rdr.e,arI,List.cons_append,List.nil_append,List.map_cons,List.map_nil,LLe,tL,ml,rn,Nat.reduceAdd,Nat.reduceSub,List.length_cons,List.length_nil]at*
         simp (disch:=omega) only[go_sem,K.aa,↓reduceIte,ex,hs,sh,an,h2,nse,nl0,aE,List.length_set,ql,List.map_append,List.map_cons,List.map_nil,List.length_append,List.length_singleton,gt_iff_lt,Nat.reduceAdd,Nat.reduceSub]
       · refine⟨_,?_,[w,w2]++[y],by simp only[List.length_cons,List.length_nil,List.length_append]at *;omega,hb2,rfl⟩
         rw[rs1,ss1]
         generalize bB _ p2 j=q at*
         generalize aD x.people b.pl m x.tags j=g at*
         rw[← qj]at nl0 ⊢
         have nse:nth (q.set j (nth q j+1)) j=nth q j+1:=aV (by omega)
         obtain⟨y1,y2,y3⟩:=y
         obtain⟨⟨places,roads⟩,time,people,tags,readers,numbers,looked,missed⟩:=x
         simp only[az,Tru.cs,ak,Rdr.e,arI,List.cons_append,List.nil_append,List.map_cons,List.map_nil,LLe,tL,ml,rn,Nat.reduceAdd,Nat.reduceSub,List.length_cons,List.length_nil]at*
         simp (disch:=omega) only[go_sem,K.aa,↓reduceIte,ex,hs,sh,an,h2,nse,nl0,aE,List.length_set,ql,List.map_append,List.map_cons,List.map_nil,List.length_append,List.length_singleton,gt_iff_lt,Nat.reduceAdd,Nat.reduceSub]
       · simp only[List.length_cons]at wl;omega
     · have nw:(c8 x.people b.pl m p2) j=0:=by unfold c8 cH eX;rw[decide_eq_true h1,decide_eq_false h2];rfl
       have ss1:aD x.people b.pl m x.tags (j+1)=aD x.people b.pl m x.tags j++[nth x.tags j]:=by rw[aD];unfold cH eX;rw[decide_eq_true h1,decide_eq_false h2];rfl
       have rs1:bB (c8 x.people b.pl m p2) p2 (j+1)=(bB (c8 x.people b.pl m p2) p2 j).set j 0:=by rw[bB,nw]
       generalize hy:nth x.people j=y at*
       rcases W with _ | ⟨w,_ | ⟨w2,_ | ⟨w3,W⟩⟩⟩
       · refine⟨_,?_,[]++[y],by simp only[List.length_cons,List.length_nil,List.length_append]at *;omega,hb2,rfl⟩
         rw[rs1,ss1]
         generalize bB _ p2 j=q at*
         generalize aD x.people b.pl m x.tags j=g at*
         obtain⟨y1,y2,y3⟩:=y
         obtain⟨⟨places,roads⟩,time,people,tags,readers,numbers,looked,missed⟩:=x
         simp only[az,Tru.cs,ak,Rdr.e,arI,List.cons_append,List.nil_append,List.map_cons,List.map_nil,LLe,tL,ml,rn,Nat.reduceAdd,Nat.reduceSub,List.length_cons,List.length_nil]at*
         simp (disch:=omega) only[go_sem,K.aa,↓reduceIte,ex,hs,sh,an,h2,et,aE,List.length_set,ql,List.map_append,List.map_cons,List.map_nil,List.length_append,List.length_singleton,gt_iff_lt,Nat.reduceAdd,Nat.reduceSub]
       · refine⟨_,?_,[w]++[y],by simp only[List.length_cons,List.length_nil,List.length_append]at *;omega,hb2,rfl⟩
         rw[rs1,ss1]
         generalize bB _ p2 j=q at*
         generalize aD x.people b.pl m x.tags j=g at*
         obtain⟨y1,y2,y3⟩:=y
         obtain⟨⟨places,roads⟩,time,people,tags,readers,numbers,looked,missed⟩:=x
         simp only[az,Tru.cs,ak,Rdr.e,arI,List.cons_append,List.nil_append,List.map_cons,List.map_nil,LLe,tL,ml,rn,Nat.reduceAdd,Nat.reduceSub,List.length_cons,List.length_nil]at*
         simp (disch:=omega) only[go_sem,K.aa,↓reduceIte,ex,hs,sh,an,h2,et,aE,List.length_set,ql,List.map_append,List.map_cons,List.map_nil,List.length_append,List.length_singleton,gt_iff_lt,Nat.reduceAdd,Nat.reduceSub]
       · refine⟨_,?_,[w,w2]++[y],by simp only[List.length_cons,List.length_nil,List.length_append]at *;omega,hb2,rfl⟩
         rw[rs1,ss1]
         generalize bB _ p2 j=q at*
         generalize aD x.people b.pl m x.tags j=g at*
         obtain⟨y1,y2,y3⟩:=y
         obtain⟨⟨places,roads⟩,time,people,tags,readers,numbers,looked,missed⟩:=x
         simp only[az,Tru.cs,ak,Rdr.e,arI,List.cons_append,List.nil_append,List.map_cons,List.map_nil,LLe,tL,ml,rn,Nat.reduceAdd,Nat.reduceSub,List.length_cons,List.length_nil]at*
         simp (disch:=omega) only[go_sem,K.aa,↓reduceIte,ex,hs,sh,an,h2,et,aE,List.length_set,ql,List.map_append,List.map_cons,List.map_nil,List.length_append,List.length_singleton,gt_iff_lt,Nat.reduceAdd,Nat.reduceSub]
       · simp only[List.length_cons]at wl;omega
   · have nw:(c8 x.people b.pl m p2) j=0:=by unfold c8 cH eX;rw[decide_eq_false h1];rfl
     have ss1:aD x.people b.pl m x.tags (j+1)=aD x.people b.pl m x.tags j:=by rw[aD];unfold cH eX;rw[decide_eq_false h1];rfl
     have rs1:bB (c8 x.people b.pl m p2) p2 (j+1)=(bB (c8 x.people b.pl m p2) p2 j).set j 0:=by rw[bB,nw]
     rw[decide_eq_false h1]at hs
     by_cases h2:ui m j=1
     · generalize hy:nth x.people j=y at*
       rcases W with _ | ⟨w,_ | ⟨w2,_ | ⟨w3,W⟩⟩⟩
       · refine⟨_,?_,[]++[y],by simp only[List.length_cons,List.length_nil,List.length_append]at *;omega,hb2,rfl⟩
         rw[rs1,ss1]
         generalize bB _ p2 j=q at*
         generalize aD x.people b.pl m x.tags j=g at*
         obtain⟨y1,y2,y3⟩:=y
         obtain⟨⟨places,roads⟩,time,people,tags,readers,numbers,looked,missed⟩:=x
         simp only[az,Tru.cs,ak,Rdr.e,arI,List.cons_append,List.nil_append,List.map_cons,List.map_nil,LLe,tL,ml,rn,Nat.reduceAdd,Nat.reduceSub,List.length_cons,List.length_nil]at*
         simp (disch:=omega) only[go_sem,K.aa,↓reduceIte,ex,hs,sh,an,h2,aE,List.length_set,ql,List.map_append,List.map_cons,List.map_nil,List.length_append,List.length_singleton,gt_iff_lt,Nat.reduceAdd,Nat.reduceSub]
       · refine⟨_,?_,[w]++[y],by simp only[List.length_cons,List.length_nil,List.length_append]at *;omega,hb2,rfl⟩
         rw[rs1,ss1]
         generalize bB _ p2 j=q at*
         generalize aD x.people b.pl m x.tags j=g at*
         obtain⟨y1,y2,y3⟩:=y
         obtain⟨⟨places,roads⟩,time,people,tags,readers,numbers,looked,missed⟩:=x
         simp only[az,Tru.cs,ak,Rdr.e,arI,List.cons_append,List.nil_append,List.map_cons,List.map_nil,LLe,tL,ml,rn,Nat.reduceAdd,Nat.reduceSub,List.length_cons,List.length_nil]at*
         simp (disch:=omega) only[go_sem,K.aa,↓reduceIte,ex,hs,sh,an,h2,aE,List.length_set,ql,List.map_append,List.map_cons,List.map_nil,List.length_append,List.length_singleton,gt_iff_lt,Nat.reduceAdd,Nat.reduceSub]
       · refine⟨_,?_,[w,w2]++[y],by simp only[List.length_cons,List.length_nil,List.length_append]at *;omega,hb2,rfl⟩
         rw[rs1,ss1]
         generalize bB _ p2 j=q at*
         generalize aD x.people b.pl m x.tags j=g at*
         obtain⟨y1,y2,y3⟩:=y
         obtain⟨⟨places,roads⟩,time,people,tags,readers,numbers,looked,missed⟩:=x
         simp only[az,Tru.cs,ak,Rdr.e,arI,List.cons_append,List.nil_append,List.map_cons,List.map_nil,LLe,tL,ml,rn,Nat.reduceAdd,Nat.reduceSub,List.length_cons,List.length_nil]at*
         simp (disch:=omega) only[go_sem,K.aa,↓reduceIte,ex,hs,sh,an,h2,aE,List.length_set,ql,List.map_append,List.map_cons,List.map_nil,List.length_append,List.length_singleton,gt_iff_lt,Nat.reduceAdd,Nat.reduceSub]
       · simp only[List.length_cons]at wl;omega
     · generalize hy:nth x.people j=y at*
       rcases W with _ | ⟨w,_ | ⟨w2,_ | ⟨w3,W⟩⟩⟩
       · refine⟨_,?_,[]++[y],by simp only[List.length_cons,List.length_nil,List.length_append]at *;omega,hb2,rfl⟩
         rw[rs1,ss1]
         generalize bB _ p2 j=q at*
         generalize aD x.people b.pl m x.tags j=g at*
         obtain⟨y1,y2,y3⟩:=y
         obtain⟨⟨places,roads⟩,time,people,tags,readers,numbers,looked,missed⟩:=x
         simp only[az,Tru.cs,ak,Rdr.e,arI,List.cons_append,List.nil_append,List.map_cons,List.map_nil,LLe,tL,ml,rn,Nat.reduceAdd,Nat.reduceSub,List.length_cons,List.length_nil]at*
         simp (disch:=omega) only[go_sem,K.aa,↓reduceIte,ex,hs,sh,an,h2,aE,List.length_set,ql,List.map_append,List.map_cons,List.map_nil,List.length_append,List.length_singleton,gt_iff_lt,Nat.reduceAdd,Nat.reduceSub]
       · refine⟨_,?_,[w]++[y],by simp only[List.length_cons,List.length_nil,List.length_append]at *;omega,hb2,rfl⟩
         rw[rs1,ss1]
         generalize bB _ p2 j=q at*
         generalize aD x.people b.pl m x.tags j=g at*
         obtain⟨y1,y2,y3⟩:=y
         obtain⟨⟨places,roads⟩,time,people,tags,readers,numbers,looked,missed⟩:=x
         simp only[az,Tru.cs,ak,Rdr.e,arI,List.cons_append,List.nil_append,List.map_cons,List.map_nil,LLe,tL,ml,rn,Nat.reduceAdd,Nat.reduceSub,List.length_cons,List.length_nil]at*
         simp (disch:=omega) only[go_sem,K.aa,↓reduceIte,ex,hs,sh,an,h2,aE,List.length_set,ql,List.map_append,List.map_cons,List.map_nil,List.length_append,List.length_singleton,gt_iff_lt,Nat.reduceAdd,Nat.reduceSub]
       · refine⟨_,?_,[w,w2]++[y],by simp only[List.length_cons,List.length_nil,List.length_append]at *;omega,hb2,rfl⟩
         rw[rs1,ss1]
         generalize bB _ p2 j=q at*
         generalize aD x.people b.pl m x.tags j=g at*
         obtain⟨y1,y2,y3⟩:=y
         obtain⟨⟨places,roads⟩,time,people,tags,readers,numbers,looked,missed⟩:=x
         simp only[az,Tru.cs,ak,Rdr.e,arI,List.cons_append,List.nil_append,List.map_cons,List.map_nil,LLe,tL,ml,rn,Nat.reduceAdd,Nat.reduceSub,List.length_cons,List.length_nil]at*
         simp (disch:=omega) only[go_sem,K.aa,↓reduceIte,ex,hs,sh,an,h2,aE,List.length_set,ql,List.map_append,List.map_cons,List.map_nil,List.length_append,List.length_singleton,gt_iff_lt,Nat.reduceAdd,Nat.reduceSub]
       · simp only[List.length_cons]at wl;omega
theorem Jl{x:Tru}(h:x.ok){a b:Rdr}{p p2:List Int}(e1:x.readers=[a,b])(e2:x.missed=[p,p2])(m off:Int)(oN oL:Obj)(num:Int)(z0 z3 z7 z10 z11 z13 z14 z15 z16 z17:D):∃q,exS aX K.ee ⟨[z0,I 1,I m,z3,.bp 0 0,.bp 1 0,.bp 2 0,z7,.bp 3 0,.bp 10 0,z10,z11,.bp 11 0,z13,z14,z15,z16,z17,.t (.sl (x.people.map Wlk.e)),I x.people.length,I 0],[.box (x.cs.map .t),.box az,.box [I 0,I 0,I 0,.nil],.box [.t (tL b.pl),I b.per,I b.miss,I b.skew],.arr 4 false 0 [.t a.e,.t b.e],oN,oL,.arr 1 false 0 [.ref 8 0 p.length,.ref 9 0 p2.length],arI p,arI p2,.box (ak 4 x),.box [I 1,I num,I (x.time+off),.ref 13 0 0],.arr 1 false 0 [],arI ([]:List Int)]⟩=some q∧AQ x a b p p2 m off oN oL num q:=by
 have n3:=h.n3
 have tl:=h.tl
 have nl:=h.nl
 have ll:=h.ll
 have t0:=h.t0
 have t1:=h.t1
 have nb:=h.nb 1 (by rw[e1];simp)
 have mb:=h.mb 1 (by rw[e1];simp)
 have m2:=h.m2 1 (by rw[e1];simp)
 have rk:nth x.readers 1=b:=by rw[e1];rfl
 have mk:nth x.missed 1=p2:=by rw[e2];rfl
 have ml:x.missed.length=2:=by rw[e2];rfl
 have rn:x.readers.length=2:=by rw[e1];rfl
 have ro:=h.r b (by rw[e1];simp)
 rw[rk,mk]at mb
 rw[mk]at m2
 obtain⟨rs,rl,rl1,rp1,rp2,rm1,rm2,rk1,rk2⟩:=ro
 refine jm (rU x a b p p2 m off oN oL num) x.people.length _ ⟨[],Nat.le_refl _,fun i hi=>absurd hi (by omega),rfl⟩ (fun j st hj hp=>Jk h e1 e2 m off oN oL num j st hj hp) ?_
 intro st hp
 refine⟨(.exit 1,st),?_,by simp,.inr ⟨?_,st,hp,rfl⟩⟩
 · obtain⟨W,wl,hb,rfl⟩:=hp
   have wl:=Nat.le_trans wl n3
   generalize bB _ p2 _=q at*
   generalize aD x.people b.pl m x.tags _=g at*
   rcases W with _ | ⟨w,_ | ⟨w2,_ | ⟨w3,_ | ⟨w4,W⟩⟩⟩⟩
   · obtain⟨⟨places,roads⟩,time,people,tags,readers,numbers,looked,missed⟩:=x
     simp only[az,Tru.cs,ak,Rdr.e,arI,List.cons_append,List.nil_append,List.map_cons,List.map_nil,LLe,tL,ml,rn,Nat.reduceAdd,Nat.reduceSub,List.length_cons,List.length_nil]at*
     simp (disch:=omega) only[go_sem,K.aa,↓reduceIte,Nat.reduceAdd,Nat.reduceSub]
   · obtain⟨⟨places,roads⟩,time,people,tags,readers,numbers,looked,missed⟩:=x
     simp only[az,Tru.cs,ak,Rdr.e,arI,List.cons_append,List.nil_append,List.map_cons,List.map_nil,LLe,tL,ml,rn,Nat.reduceAdd,Nat.reduceSub,List.length_cons,List.length_nil]at*
     simp (disch:=omega) only[go_sem,K.aa,↓reduceIte,Nat.reduceAdd,Nat.reduceSub]
   · obtain⟨⟨places,roads⟩,time,people,tags,readers,numbers,looked,missed⟩:=x
     simp only[az,Tru.cs,ak,Rdr.e,arI,List.cons_append,List.nil_append,List.map_cons,List.map_nil,LLe,tL,ml,rn,Nat.reduceAdd,Nat.reduceSub,List.length_cons,List.length_nil]at*
     simp (disch:=omega) only[go_sem,K.aa,↓reduceIte,Nat.reduceAdd,Nat.reduceSub]
   · obtain⟨⟨places,roads⟩,time,people,tags,readers,numbers,looked,missed⟩:=x
     simp only[az,Tru.cs,ak,Rdr.e,arI,List.cons_append,List.nil_append,List.map_cons,List.map_nil,LLe,tL,ml,rn,Nat.reduceAdd,Nat.reduceSub,List.length_cons,List.length_nil]at*
     simp (disch:=omega) only[go_sem,K.aa,↓reduceIte,Nat.reduceAdd,Nat.reduceSub]
   · simp only[List.length_cons]at wl;omega
 · obtain⟨W,wl,hb,rfl⟩:=hp
   rw[List.any_eq_false]
   intro i hi
   rw[hb i (List.mem_range.1 hi)]
   decide
set_option maxHeartbeats 4000000 in
theorem AR{x:Tru}(h:x.ok){a b:Rdr}{p p2:List Int}(e1:x.readers=[a,b])(e2:x.missed=[p,p2])(m off:Int)(o1: -b.skew≤off)(o2:off≤b.skew)(o3:0≤x.time+off)(o4:x.time+off≤2147483648):
 aX 0 N.ae [.t x.e,I 1,I m,I off] []=some (if p9 x 1 m then .tup [.t x.e,.t (iN 0 0 0 []),I 43]else .tup [.t (kS x 1 m).e,.t (iN 1 (rR x 1) (x.time+off) (eZ (aD x.people b.pl m x.tags x.people.length))),I 0],[]):=by
 have n3:=h.n3
 have tl:=h.tl
 have nl:=h.nl
 have ll:=h.ll
 have t0:=h.t0
 have t1:=h.t1
 have nb:=h.nb 1 (by rw[e1];simp)
 have mb:=h.mb 1 (by rw[e1];simp)
 have m2:=h.m2 1 (by rw[e1];simp)
 have rk:nth x.readers 1=b:=by rw[e1];rfl
 have mk:nth x.missed 1=p2:=by rw[e2];rfl
 have ml:x.missed.length=2:=by rw[e2];rfl
 have rn:x.readers.length=2:=by rw[e1];rfl
 have ro:=h.r b (by rw[e1];simp)
 rw[rk,mk]at mb
 rw[mk]at m2
 obtain⟨rs,rl,rl1,rp1,rp2,rm1,rm2,rk1,rk2⟩:=ro
 have sz:=h.sz
 have cp:=qT sz e1 e2
 have va:=gz h
 have lpL:=Jl h e1 e2 m off
 have scl:∀(y:Tru) (r:T) (v:Int),([D.t y.e,D.t r,I v].all cG)=false:=fun _ _ _=>rfl
 have sl:=dY x.people b.pl m x.tags x.people.length
 have so:=nz 0 (aD x.people b.pl m x.tags x.people.length) (by omega)
 have sol:=eu (aD x.people b.pl m x.tags x.people.length)
 have i1:=eP 1 0 ((2:Int)-1)
 have i2:=eP off (0-b.skew) b.skew
 have i3:=eP (x.time+off) 0 2147483648
 rw[decide_eq_true (by omega)]at i1 i2 i3
 unfold p9 kS rR
 rw[rk,mk]
 have en:(x.numbers.map (T.int .i64))[1]?=some (tI (nth x.numbers 1)):=aU _ (by omega)
 have el:(x.looked.map (T.int .i64))[1]?=some (tI (nth x.looked 1)):=aU _ (by omega)
 generalize nth x.numbers 1=nu at*
 generalize nth x.looked 1=lo at*
 refine aO K.ea rfl ?_
 have qe:∀(b:Prop) [Decidable b],(nu+if b then 2 else 1)=if b then nu+2 else nu+1:=fun b _=>by split<;>rfl
 have wl:=ef (c8 x.people b.pl m p2) p2 x.people.length
 by_cases bq:(List.range x.people.length).any (fv x.people b.pl b.miss m p2)=true
 · rw[if_pos bq]
   obtain⟨⟨places,roads⟩,time,people,tags,readers,numbers,looked,missed⟩:=x
   subst e1 e2
   simp only[az,Tru.e,Tru.cs,ak,arI,jW,tLL,Rdr.e,List.map_cons,List.map_nil,LLe,tL]at*
   by_cases ca:0≤lo
   · by_cases cb:b.per<time-lo
     · simp (disch:=omega) only[go_sem,K.ae,↓reduceIte,cp,va,i1,i2,i3,en,el,ca,cb,gt_iff_lt,aE,List.length_set,Nat.reduceAdd,Nat.reduceSub]
       refine cF _ (lpL _ _ _ _ _ _ _ _ _ _ _ _ _) ?_
       rintro q (⟨_,v0,v3,_,_,_,vr,rest,rfl⟩ | ⟨n,_⟩)
       · simp (disch:=omega) only[go_sem,K.ae,↓reduceIte,scl,Nat.reduceAdd,Nat.reduceSub]
         rfl
       · rw[n]at bq;cases bq
     · simp (disch:=omega) only[go_sem,K.ae,↓reduceIte,cp,va,i1,i2,i3,en,el,ca,cb,gt_iff_lt,aE,List.length_set,Nat.reduceAdd,Nat.reduceSub]
       refine cF _ (lpL _ _ _ _ _ _ _ _ _ _ _ _ _) ?_
       rintro q (⟨_,v0,v3,_,_,_,vr,rest,rfl⟩ | ⟨n,_⟩)
       · simp (disch:=omega) only[go_sem,K.ae,↓reduceIte,scl,Nat.reduceAdd,Nat.reduceSub]
         rfl
       · rw[n]at bq;cases bq
   · simp (disch:=omega) only[go_sem,K.ae,↓reduceIte,cp,va,i1,i2,i3,en,el,ca,gt_iff_lt,aE,List.length_set,Nat.reduceAdd,Nat.reduceSub]
     refine cF _ (lpL _ _ _ _ _ _ _ _ _ _ _ _ _) ?_
     rintro q (⟨_,v0,v3,_,_,_,vr,rest,rfl⟩ | ⟨n,_⟩)
     · simp (disch:=omega) only[go_sem,K.ae,↓reduceIte,scl,Nat.reduceAdd,Nat.reduceSub]
       rfl
     · rw[n]at bq;cases bq
 · rw[if_neg bq]
   have qa:(x.numbers.set 1 ((nu+if 0≤lo∧b.per<x.time-lo then 2 else 1).tmod 65536)).length=x.numbers.length:=List.length_set ..
   generalize hg:aD x.people b.pl m x.tags x.people.length=g at*
   obtain⟨q,hq,hQ⟩:=lpL (arI (x.numbers.set 1 ((nu+if 0≤lo∧b.per<x.time-lo then 2 else 1).tmod 65536))) (arI (x.looked.set 1 x.time)) ((nu+if 0≤lo∧b.per<x.time-lo then 2 else 1).tmod 65536) (.t x.e) (I off) (I 0) (if 0≤lo∧b.per<x.time-lo then I 2 else I 1) (I ((nu+if 0≤lo∧b.per<x.time-lo then 2 else 1).tmod 65536)) .und .und .und .und .und
   rcases hQ with⟨n,_⟩ | ⟨_,st,⟨W,wl2,hb,rfl⟩,rfl⟩
   · exact absurd n bq
   rw[hg]at hq
   generalize bB _ p2 _=w at*
   rcases W with _ | ⟨w1,_ | ⟨w2,_ | ⟨w3,_ | ⟨w4,W⟩⟩⟩⟩
   · obtain⟨⟨places,roads⟩,time,people,tags,readers,numbers,looked,missed⟩:=x
     subst e1 e2
     simp only[az,Tru.e,Tru.cs,iN,ak,arI,jW,tLL,Rdr.e,List.cons_append,List.nil_append,List.map_cons,List.map_nil,LLe,tL,Nat.reduceAdd,Nat.reduceSub,List.length_cons,List.length_nil]at*
     by_cases ca:0≤lo
     · by_cases cb:b.per<time-lo
       · simp only[if_pos (And.intro ca cb)]at hq ⊢
         simp (disch:=omega) only[go_sem,K.ae,↓reduceIte,cp,va,i1,i2,i3,en,el,ca,cb,gt_iff_lt,aE,hq,so,sol,wl,scl,List.length_set,Nat.reduceAdd,Nat.reduceSub]
       · simp only[if_neg (fun e:0≤lo∧b.per<time-lo=>cb e.2)]at hq ⊢
         simp (disch:=omega) only[go_sem,K.ae,↓reduceIte,cp,va,i1,i2,i3,en,el,ca,cb,gt_iff_lt,aE,hq,so,sol,wl,scl,List.length_set,Nat.reduceAdd,Nat.reduceSub]
     · simp only[if_neg (fun e:0≤lo∧b.per<time-lo=>ca e.1)]at hq ⊢
       simp (disch:=omega) only[go_sem,K.ae,↓reduceIte,cp,va,i1,i2,i3,en,el,ca,gt_iff_lt,aE,hq,so,sol,wl,scl,List.length_set,Nat.reduceAdd,Nat.reduceSub]
   · obtain⟨⟨places,roads⟩,time,people,tags,readers,numbers,looked,missed⟩:=x
     subst e1 e2
     simp only[az,Tru.e,Tru.cs,iN,ak,arI,jW,tLL,Rdr.e,List.cons_append,List.nil_append,List.map_cons,List.map_nil,LLe,tL,Nat.reduceAdd,Nat.reduceSub,List.length_cons,List.length_nil]at*
     by_cases ca:0≤lo
     · by_cases cb:b.per<time-lo
       · simp only[if_pos (And.intro ca cb)]at hq ⊢
         simp (disch:=omega) only[go_sem,K.ae,↓reduceIte,cp,va,i1,i2,i3,en,el,ca,cb,gt_iff_lt,aE,hq,so,sol,wl,scl,List.length_set,Nat.reduceAdd,Nat.reduceSub]
       · simp only[if_neg (fun e:0≤lo∧b.per<time-lo=>cb e.2)]at hq ⊢
         simp (disch:=omega) only[go_sem,K.ae,↓reduceIte,cp,va,i1,i2,i3,en,el,ca,cb,gt_iff_lt,aE,hq,so,sol,wl,scl,List.length_set,Nat.reduceAdd,Nat.reduceSub]
     · simp only[if_neg (fun e:0≤lo∧b.per<time-lo=>ca e.1)]at hq ⊢
       simp (disch:=omega) only[go_sem,K.ae,↓reduceIte,cp,va,i1,i2,i3,en,el,ca,gt_iff_lt,aE,hq,so,sol,wl,scl,List.length_set,Nat.reduceAdd,Nat.reduceSub]
   · obtain⟨⟨places,roads⟩,time,people,tags,readers,numbers,looked,missed⟩:=x
     subst e1 e2
     simp only[az,Tru.e,Tru.cs,iN,ak,arI,jW,tLL,Rdr.e,List.cons_append,List.nil_append,List.map_cons,List.map_nil,LLe,tL,Nat.reduceAdd,Nat.reduceSub,List.length_cons,List.length_nil]at*
     by_cases ca:0≤lo
     · by_cases cb:b.per<time-lo
       · simp only[if_pos (And.intro ca cb)]at hq ⊢
         simp (disch:=omega) only[go_sem,K.ae,↓reduceIte,cp,va,i1,i2,i3,en,el,ca,cb,gt_iff_lt,aE,hq,so,sol,wl,scl,List.length_set,Nat.reduceAdd,Nat.reduceSub]
       · simp only[if_neg (fun e:0≤lo∧b.per<time-lo=>cb e.2)]at hq ⊢
         simp (disch:=omega) only[go_sem,K.ae,↓reduceIte,cp,va,i1,i2,i3,en,el,ca,cb,gt_iff_lt,aE,hq,so,sol,wl,scl,List.length_set,Nat.reduceAdd,Nat.reduceSub]
     · simp only[if_neg (fun e:0≤lo∧b.per<time-lo=>ca e.1)]at hq ⊢
       simp (disch:=omega) only[go_sem,K.ae,↓reduceIte,cp,va,i1,i2,i3,en,el,ca,gt_iff_lt,aE,hq,so,sol,wl,scl,List.length_set,Nat.reduceAdd,Nat.reduceSub]
   · obtain⟨⟨places,roads⟩,time,people,tags,readers,numbers,looked,missed⟩:=x
     subst e1 e2
     simp only[az,Tru.e,Tru.cs,iN,ak,arI,jW,tLL,Rdr.e,List.cons_append,List.nil_append,List.map_cons,List.map_nil,LLe,tL,Nat.reduceAdd,Nat.reduceSub,List.length_cons,List.length_nil]at*
     by_cases ca:0≤lo
     · by_cases cb:b.per<time-lo
       · simp only[if_pos (And.intro ca cb)]at hq ⊢
         simp (disch:=omega) only[go_sem,K.ae,↓reduceIte,cp,va,i1,i2,i3,en,el,ca,cb,gt_iff_lt,aE,hq,so,sol,wl,scl,List.length_set,Nat.reduceAdd,Nat.reduceSub]
       · simp only[if_neg (fun e:0≤lo∧b.per<time-lo=>cb e.2)]at hq ⊢
         simp (disch:=omega) only[go_sem,K.ae,↓reduceIte,cp,va,i1,i2,i3,en,el,ca,cb,gt_iff_lt,aE,hq,so,sol,wl,scl,List.length_set,Nat.reduceAdd,Nat.reduceSub]
     · simp only[if_neg (fun e:0≤lo∧b.per<time-lo=>ca e.1)]at hq ⊢
       simp (disch:=omega) only[go_sem,K.ae,↓reduceIte,cp,va,i1,i2,i3,en,el,ca,gt_iff_lt,aE,hq,so,sol,wl,scl,List.length_set,Nat.reduceAdd,Nat.reduceSub]
   · simp only[List.length_cons]at wl2;omega
end Go.Ev
