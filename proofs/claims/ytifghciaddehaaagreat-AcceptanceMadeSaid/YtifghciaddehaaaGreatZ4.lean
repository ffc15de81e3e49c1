/- Parts of the proof: see the text that holds the theorem. -/
import Derived.Test.YtifghciaddehaaaGreatZ3
set_option linter.all false
open Nat (reduceAdd reduceSub)
set_option maxRecDepth 100000
namespace Go.Ev.K
open Go.Ev
def eH:Fn:= { aP:=3,vars:=[0,1,2,3,4,6,7],body:=(q [w 3 (.bx v0 2),w 4 (.bx v1 2),w 5 (.al [z0,.nil] []),x 6 (.i 0)] [] (.seq (.ite [h 2 v3,u (.ca N.dW 0 [] [.l 0]),u (.un .not l0),m l0,y 0 false (.ld v3 2 true),y 1 false (.ld v4 2 true),y 2 false (.ca N.dK 0 [] [.l 1,.l 0]),y 3 false (.un .not l0),u (.pk l4 (.b true) l0)] [] 0 (q [h 2 v4,u (.st v5 l0 2 []),x 6 (.i 6)] [] .ret) .skip) (.seq (.ite [m v2,f 0 v4,g l0,u (.bin .lss l2 l0),m l0,e 0 false v2,y 1 false (.bin .gtr l0 (.i 2147483648)),u (.pk l2 (.b true) l0)] [] 0 (q [h 2 v4,u (.st v5 l0 2 []),x 6 (.i 8)] [] .ret) .skip) (q [m v2,h 2 v3,f 1 v4,g l0,m v2,u (.ca N.dj 0 [] [.l 3,.l 1,.l 0,.c (.fn N.fP [])]),u (.bd [z0,.nil] [(0,1,.l 5),(1,1,.l 0)]),u (.st v5 l0 2 []),x 6 (.i 0)] [] .ret)))),res:=[(5,some (2,true)),(6,none)]}
def dU:C:= (.seq (.ite [g v9] [] 0 .skip (.exit 0)) (.seq (.blk 1 (q [u (.st v9 (.b false) 1 [])] [] (.reg [h 2 v4,g v8,u (.mf N.bw [.v 5,.v 8,.v 6,.v 9]),u (.ca N.dY 0 [1] [.l 2,.l 1,.l 0])] []))) (q [w 10 (.ld v9 1 false)] [] (.reg [w 9 (.al [z1] []),u (.st l0 v10 1 [])] []))))
def nF:C:= .loop false [0,1,2,3,7,10] K.dU
def dj:Fn:= { aP:=4,vars:=[0,1,2,3,4,6,7,8,9,10,18],body:=(q [w 4 (.bx v0 2),w 5 (.bx v2 1),w 6 (.bx v3 1),w 7 (.mv (.c (.nil)))] [] (q [m v1,u (.ca N.aV 1 [] [.l 0]),w 8 (.al [.nil] []),u (.st l0 l1 1 [])] [] (.seq (q [w 9 (.al [z1] []),u (.st l0 (.b true) 1 [])] [] (.blk 0 K.nF)) (q [g v8,x 7 l0] [] .ret)))),res:=[(7,none)]}
def fP:Fn:= { aP:=1,vars:=[2],body:=(q [x 0 (.b false)] [] (q [x 0 (.b true)] [] .ret)),res:=[(0,none)]}
def dK:Fn:= { aP:=2,vars:=[0,1,2,3,4],body:=(q [w 2 (.bx v0 2),w 3 (.bx v1 2),x 4 (.b false)] [] (q [f 1 v3,g l0,u (.ln l0),f 0 v2,g l0,u (.ln l0),u (.bin .eql l3 l0),m l0,y 0 true (.fa v3 0),i 1 true l0,y 2 true (.ca N.eW 0 [] [.l 0,.i 0,.i 2147483648]),u (.pk l3 l0 (.b false)),m l0,y 0 true (.fa v3 1),i 1 true l0,y 2 true (.ca N.aK 0 [] [.l 0,.c (.fn N.cy [])]),y 3 true (.un .not l0),u (.pk l4 l0 (.b false)),x 4 l0] [] .ret)),res:=[(4,none)]}
def gI:C:= (.its [u (.bin .lss v5 v4)] [] 0 .skip (.exit 0) (.seq (.blk 1 (q [m v5,x 3 l0] [] (.ite [m v0,m v3,a 1 l1 l0,g l0,m v1,m v3,a 1 l1 l0,g l0,u (.bin .neq l4 l0)] [] 0 (q [x 2 (.b false)] [] .ret) .skip))) (.reg [u (.bin .add v5 (.i 1)),x 5 l0] [])))
def mK:C:= .loop true [2,3] K.gI
def bq:Fn:= { aP:=2,vars:=[0,1,4,5,12,13],body:=(q [x 2 (.b false)] [] (.seq (.ite [m v0,u (.ln l0),m v1,u (.ln l0),u (.bin .neq l2 l0)] [] 0 (q [x 2 (.b false)] [] .ret) .skip) (.seq (q [m v0,w 4 (.ln l0),x 5 (.i 0)] [] (.blk 0 K.mK)) (q [x 2 (.b true)] [] .ret)))),res:=[(2,none)]}
def aV:Fn:= { aP:=1,vars:=[0,2],body:=(q [w 1 (.mv (.c (.nil)))] [] (.itk [m v0,u (.eqk (.sl) false l0 (.c (.nil)))] [] 0 (q [w 1 (.nw 1)] [] .ret) .skip (q [u (.bsr [] 1),m v0,u (.app l1 l0 false 1),x 1 l0] [] .ret))),res:=[(1,none)]}
def c8:Fn:= { aP:=2,vars:=[0,1,3],body:=(q [x 2 (.b false)] [] (q [g v1,m v0,u (.ca N.aQ 0 [] [.l 1,.l 0]),x 2 l0] [] .ret)),res:=[(2,none)]}
def fQ:Fn:= { aP:=3,vars:=[0,1,2,3,4,6,7],body:=(q [w 3 (.bx v0 2),w 4 (.bx v1 2),w 5 (.al [z0,.nil] []),x 6 (.i 0)] [] (.seq (.ite [h 2 v3,u (.ca N.cW 0 [] [.l 0]),u (.bin .neq l0 (.i 0)),m l0,y 0 false (.ld v4 2 true),y 1 false (.fa v3 0),i 2 false l0,y 3 false (.ln l0),y 4 false (.ca N.eu 0 [] [.l 3,.l 0]),y 5 false (.un .not l0),u (.pk l6 (.b true) l0)] [] 0 (q [h 2 v4,u (.ca N.dv 0 [] [.l 0]),u (.st v5 l0 2 []),x 6 (.i 6)] [] .ret) .skip) (.seq (.ite [m v2,f 0 v4,g l0,u (.bin .lss l2 l0),m l0,e 0 false v2,y 1 false (.bin .gtr l0 (.i 2147483648)),u (.pk l2 (.b true) l0)] [] 0 (q [h 2 v4,u (.ca N.dv 0 [] [.l 0]),u (.st v5 l0 2 []),x 6 (.i 8)] [] .ret) .skip) (q [m v2,h 2 v3,f 1 v4,g l0,m v2,u (.ca N.eV 0 [] [.l 3,.l 1,.l 0]),u (.bd [z0,.nil] [(0,1,.l 5),(1,1,.l 0)]),u (.st v5 l0 2 []),x 6 (.i 0)] [] .ret)))),res:=[(5,some (2,true)),(6,none)]}
def fR:C:= (.its [u (.bin .lss v14 (.i 2))] [] 0 .skip (.exit 2) (.seq (.blk 3 (q [u (.ix v13 v14 2 1 false),x 6 l0] [] (q [f 0 v5,g l0,f 1 v5,g l0,x 7 l2,x 8 l1] [] (.seq (.ite [m v6] [] 0 (.reg [m v8,m v7,x 7 l1,x 8 l1] []) .skip) (q [h 2 v3,m v4,m v6,u (.ca N.lA 0 [] [.l 2,.l 1,.l 0]),x 9 l0] [] (.ite [m v9,u (.bin .geq l0 (.i 0)),m l0,e 0 true v1,e 1 true v7,y 2 true (.ia l1 l0 1),i 3 true l0,y 4 true (.bin .lss l0 (.i 1099511627776)),u (.pk l5 l0 (.b false))] [] 0 (.reg [m v2,m v7,m v8,m v1,m v7,a 1 l1 l0,g l0,m v9,u (.bin .add l1 l0),u (.cw l8 0 [] [.l 7,.l 6,.l 0])] []) .skip)))))) (.reg [u (.bin .add v14 (.i 1)),x 14 l0] [])))
def qo:C:= .loop true [0,6,7,8,9] K.fR
def jE:C:= (.its [u (.bin .lss v12 v11)] [] 0 .skip (.exit 0) (.seq (.blk 1 (q [m v12,a 10 v10 v12,h 10 l0,w 5 (.al [z0,z0,z0,z0,z1,z1,z0,z0,z0,z0] []),x 4 l3,u (.st l1 l2 10 [])] [] (q [w 13 (.bd [z1,z1] [(0,1,.b false),(1,1,.b true)]),x 14 (.i 0)] [] (.blk 2 K.qo)))) (.reg [u (.bin .add v12 (.i 1)),x 12 l0] [])))
def qp:C:= .loop true [0,4,5,6,7,8,9,13,14] K.jE
def dY:Fn:= { aP:=3,vars:=[0,1,2,3,6,7,9,10,11,12,14,15,16,21,22],body:=(q [w 3 (.bx v0 2)] [] (q [f 1 v3,w 10 (.ld l0 1 false),w 11 (.ln l0),x 12 (.i 0)] [] (.blk 0 K.qp))),res:=[]}
def bw:Fn:= { aP:=7,vars:=[1,2,3,4,5,6],body:=(q [m v1,g v2,u (.mx [.l 1,.l 0]),x 1 l0] [] (.ite [m v1,u (.bin .leq l0 (.i 2147483648)),m l0,e 0 true v1,i 1 true v3,e 2 true v0,y 3 true (.ia l1 l0 1),i 4 true l0,y 5 true (.bin .lss l4 l0),u (.pk l6 l0 (.b false)),m l0,i 0 true v4,e 1 true v0,y 2 true (.cw l1 0 [] [.l 0]),u (.pk l3 l0 (.b false))] [] 0 (.reg [g v3,m v0,m v1,a 1 l2 l1,u (.st l0 l1 1 []),u (.st v5 (.b true) 1 [])] []) .skip)),res:=[]}
def cy:Fn:= { aP:=1,vars:=[0,2],body:=(q [x 1 (.b false)] [] (q [m v0,u (.bin .neq l0 (.i 1099511627776)),m l0,e 0 true v0,y 1 true (.ca N.eW 0 [] [.l 0,.i 0,.i 2147483648]),y 2 true (.un .not l0),u (.pk l3 l0 (.b false)),x 1 l0] [] .ret)),res:=[(1,none)]}
def lA:Fn:= { aP:=3,vars:=[0,1,2,3,6],body:=(q [w 3 (.bx v0 2),x 4 (.i 0)] [] (.seq (.ite [h 2 v3,u (.ca N.dW 0 [] [.l 0]),u (.un .not l0),m l0,e 0 false v1,y 1 false (.bin .lss l0 (.i 0)),u (.pk l2 (.b true) l0),m l0,e 0 false v1,y 1 false (.fa v3 1),i 2 false l0,y 3 false (.ln l0),y 4 false (.bin .geq l3 l0),u (.pk l5 (.b true) l0)] [] 0 (q [w 4 (.mv (.i (-1)))] [] .ret) .skip) (q [h 2 v3,m v1,m v2,u (.ca N.lB 0 [] [.l 2,.l 1,.l 0]),x 4 l0] [] .ret))),res:=[(4,none)]}
def lB:Fn:= { aP:=3,vars:=[0,1,2,3,6],body:=(q [w 3 (.bx v0 2),x 4 (.i 0)] [] (q [h 2 v3,m v1,m v2,u (.ca N.jY 0 [] []),u (.ca N.fJ 0 [] [.l 3,.l 2,.l 1,.l 0]),x 4 l0] [(0,4)] .ret)),res:=[(4,none)]}
def fJ:Fn:= { aP:=4,vars:=[0,1,2,3,4,7,8,9,10,11],body:=(q [w 4 (.bx v0 2),w 5 (.bx v3 3),x 6 (.i 0)] [] (q [f 1 v4,g l0,m v1,a 10 l1 l0,h 10 l0,w 7 (.al [z0,z0,z0,z0,z1,z1,z0,z0,z0,z0] []),u (.st l0 l1 10 [])] [] (.seq (.ite [f 5 v7,g l0,m l0,y 0 false (.fa v7 4),i 1 false l0,y 2 false (.un .not l0),u (.pk l3 (.b true) l0)] [] 0 (q [w 6 (.mv (.i (-1)))] [] .ret) .skip) (q [f 0 v4,g l0,f 1 v7,g l0,a 2 l2 l0,f 0 l0,g l0,f 0 v4,g l0,f 0 v7,g l0,a 2 l2 l0,f 0 l0,g l0,u (.bin .sub l7 l0),x 8 l0] [] (.seq (.ite [m v2] [] 0 (.reg [m v8,u (.un .neg l0),x 8 l0] []) .skip) (q [f 2 v5,g l0,x 9 l0] [] (.seq (.blk 0 (.ite [m v8,u (.bin .mul (.i 10) l0),f 2 v7,g l0,u (.bin .gtr l2 l0),m l0] [] 0 (.reg [f 0 v5,g l0,x 9 l0] []) (.ite [m v8,u (.bin .mul (.i (-10)) l0),f 2 v7,g l0,u (.bin .gtr l2 l0),m l0] [] 0 (.reg [f 1 v5,g l0,x 9 l0] []) .skip))) (q [f 2 v7,g l0,u (.bin .mul (.i 10) l0),m v9,u (.bin .add l1 l0),u (.bin .sub l0 (.i 1)),m v9,u (.bin .quo l1 l0),x 6 l0] [] .ret)))))))),res:=[(6,none)]}
def jY:Fn:= { aP:=0,vars:=[0],body:=(q [w 0 (.al [z0,z0,z0] [])] [] (q [u (.bd [z0,z0,z0] [(0,1,.i 6),(1,1,.i 9),(2,1,.i 12)]),u (.st v0 l0 3 [])] [] .ret)),res:=[(0,some (3,true))]}
end Go.Ev.K
namespace Go.Ev
class gj [Lib]:Prop where
 qR:Lib.fs N.eH=some K.eH
 lK:Lib.fs N.dj=some K.dj
 uY:Lib.fs N.fP=some K.fP
 pK:Lib.fs N.dK=some K.dK
 j5:Lib.fs N.bq=some K.bq
 j6:Lib.fs N.aV=some K.aV
 nG:Lib.fs N.c8=some K.c8
 sV:Lib.fs N.fQ=some K.fQ
 nH:Lib.fs N.dY=some K.dY
 mL:Lib.fs N.bw=some K.bw
 nI:Lib.fs N.cy=some K.cy
 xQ:Lib.fs N.lA=some K.lA
 xR:Lib.fs N.lB=some K.lB
 xS:Lib.fs N.fJ=some K.fJ
 uZ:Lib.fs N.jY=some K.jY
namespace K
variable [Lib] [gj]
theorem qR:Lib.fs N.eH=some K.eH:=gj.qR
theorem lK:Lib.fs N.dj=some K.dj:=gj.lK
theorem uY:Lib.fs N.fP=some K.fP:=gj.uY
theorem pK:Lib.fs N.dK=some K.dK:=gj.pK
theorem j5:Lib.fs N.bq=some K.bq:=gj.j5
theorem j6:Lib.fs N.aV=some K.aV:=gj.j6
theorem nG:Lib.fs N.c8=some K.c8:=gj.nG
theorem sV:Lib.fs N.fQ=some K.fQ:=gj.sV
theorem nH:Lib.fs N.dY=some K.dY:=gj.nH
theorem mL:Lib.fs N.bw=some K.bw:=gj.mL
theorem nI:Lib.fs N.cy=some K.cy:=gj.nI
theorem xQ:Lib.fs N.lA=some K.lA:=gj.xQ
theorem xR:Lib.fs N.lB=some K.lB:=gj.xR
theorem xS:Lib.fs N.fJ=some K.fJ:=gj.xS
theorem uZ:Lib.fs N.jY=some K.jY:=gj.uZ
end K
end Go.Ev
namespace Go.Ev
open Go
variable [Lib] [cu] [bM] [fK] [fI] [iv] [gj]
abbrev kF(l:List Int):Obj:= .arr 1 false 0 ((l.map (T.int .i64)).map .t)
theorem y9(l:List Int)(hl:l.length≤1000000):aD 1 N.aV [.t (tL l)] []=some (.ref 0 0 l.length,[kF l]):=by
 refine ao K.j6 rfl ?_
 by_cases h0:l=[]
 · subst h0
   simp only[tL,List.map_nil]
   simp(disch:=omega)only[go_sem,K.aV,↓reduceIte,List.map_nil,List.length_nil,reduceAdd,reduceSub]
   rfl
 · have e:=fun H=>BN H (l.map (T.int .i64)) (by simpa using h0)
   simp(disch:=omega)only[go_sem,K.aV,↓reduceIte,e,reduceAdd,reduceSub]
theorem LF(a b:List Int)(hl:a.length≤4294967296)(hl2:b.length≤4294967296):aD 0 N.bq [.t (tL a),.t (tL b)] []=some (B (decide (a=b)),[]):=by
 refine ao K.j5 rfl ?_
 by_cases hlen:a.length=b.length
 · have loop:∀z2 z3:D,exS aD K.mK ⟨[.t (tL a),.t (tL b),z2,z3,I a.length,I 0],[]⟩=
    some (match (List.range a.length).find? (fun j=>decide (nth a j≠nth b j))with
     | some j=>(.ret,⟨[.t (tL a),.t (tL b),B false,I j,I a.length,I j],[]⟩)
     | none=>(.exit 0,⟨[.t (tL a),.t (tL b),.und,.und,I a.length,I a.length],[]⟩)):=by
    intro z2 z3
    refine cH (fun j=>⟨[.t (tL a),.t (tL b),.und,.und,I a.length,I j],[]⟩) a.length (fun j=>decide (nth a j≠nth b j)) _ _ rfl ?_ ?_ ?_ (by simp)
    · intro j hj hp
      have hp:nth a j=nth b j:=by simpa using hp
      simp(disch:=omega)only[go_sem,K.gI,↓reduceIte,reduceAdd,reduceSub]
    · intro j hj hp
      have hp:nth a j≠nth b j:=by simpa using hp
      simp(disch:=omega)only[go_sem,K.gI,↓reduceIte,reduceAdd,reduceSub]
      simp
    · simp(disch:=omega)only[go_sem,K.gI,↓reduceIte,reduceAdd,reduceSub]
   have e:(a=b)↔(List.range a.length).find? (fun j=>decide (nth a j≠nth b j))=none:=by
    rw[List.find?_eq_none]
    constructor
    · intro h j _;simp[h]
    · intro h
      apply List.ext_getElem?
      intro j
      by_cases hj:j<a.length
      · rw[cG hj,cG (by omega)]
        have:=h j (aLu.2 hj)
        simpa using this
      · rw[aLm (by omega),aLm (by omega)]
   cases hf:(List.range a.length).find? (fun j=>decide (nth a j≠nth b j))with
   | some j=>
     rw[hf]at e loop
     have e:¬a=b:=fun h=>by have:=e.1 h;cases this
     simp(disch:=omega)only[go_sem,K.bq,↓reduceIte,loop,e,decide_false,reduceAdd,reduceSub]
   | none=>
     rw[hf]at e loop
     have e:a=b:=e.2 rfl
     simp(disch:=omega)only[go_sem,K.bq,↓reduceIte,loop,decide_eq_true e,reduceAdd,reduceSub]
 · have hne:a≠b:=fun h=>hlen (by rw[h])
   simp(disch:=omega)only[go_sem,K.bq,↓reduceIte,hne,decide_false,reduceAdd,reduceSub]
theorem T1:aD 0 N.jY [] []=some (.t (.agg [tI 6,tI 9,tI 12]),[]):=by
 refine ao K.uZ rfl ?_
 simp(disch:=omega)only[go_sem,K.jY,↓reduceIte,reduceAdd,reduceSub]
theorem Qo{m:aB}(h:m.ok)(k:Nat)(hk:k<m.roads.length)(back:Bool)(up down level:Int)(hu:1≤up)(hu2:up≤100)(hd:1≤down)(hd2:down≤100)(hl:1≤level)(hl2:level≤100):
 aD 0 N.fJ [.t m.e,I k,B back,.t (.agg [tI up,tI down,tI level])] []=some (I (iN m k back up down level),[]):=by
 refine ao K.xS rfl ?_
 have nr:=h.nr
 have np:=h.np
 obtain⟨f0,f1,t0,t1, -,l0,l1, -, -, -, -, -, -, -, -⟩:=h.rs _ (ai hk)
 have b1:=h.hs _ (ai (l:=m.aa) (j:=(nth m.roads k).frm.toNat) (by omega))
 have b2:=h.hs _ (ai (l:=m.aa) (j:=(nth m.roads k).to.toNat) (by omega))
 have g:(m.roads.map Road.e)[k]?=some (nth m.roads k).e:=b8 _ hk
 have p1:(m.aa.map Place.e)[(nth m.roads k).frm.toNat]?=some (nth m.aa (nth m.roads k).frm.toNat).e:=b8 _ (by omega)
 have p2:(m.aa.map Place.e)[(nth m.roads k).to.toNat]?=some (nth m.aa (nth m.roads k).to.toNat).e:=b8 _ (by omega)
 have key:∀h1 h2:Int, -10000≤h1→h1≤10000→ -10000≤h2→h2≤10000→IntKind.i64.wrap (h1-h2)=h1-h2∧IntKind.i64.wrap (-(h1-h2))=h2-h1:=fun h1 h2 _ _ _ _=>⟨xD (by omega) (by omega),by rw[xD (by omega) (by omega)];omega⟩
 unfold iN
 generalize nth m.roads k=x at*
 obtain⟨frm,to,len,area,walk,closed,rl,rh,ll,lh⟩:=x
 simp only at f0 f1 t0 t1 l0 l1 b1 b2 p1 p2 ⊢
 cases closed with
 | true=>
   obtain⟨aa,roads⟩:=m
   simp(disch:=omega)only[go_sem,K.fJ,↓reduceIte,g,reduceAdd,reduceSub]
 | false=>
   cases walk with
   | false=>
     obtain⟨aa,roads⟩:=m
     simp(disch:=omega)only[go_sem,K.fJ,↓reduceIte,g,reduceAdd,reduceSub]
   | true=>
     have g1:=xN (a:=10*len+up-1) (b:=up) (by omega) hu
     have g2:=xN (a:=10*len+down-1) (b:=down) (by omega) hd
     have g3:=xN (a:=10*len+level-1) (b:=level) (by omega) hl
     cases back with
     | true=>
       simp only[↓reduceIte]
       generalize nth m.aa frm.toNat=q1 at*
       generalize nth m.aa to.toNat=q2 at*
       obtain⟨h1,s1⟩:=q1
       obtain⟨h2,s2⟩:=q2
       obtain⟨aa,roads⟩:=m
       simp only at*
       obtain⟨w2,w3⟩:=key h2 h1 (by omega) (by omega) (by omega) (by omega)
       by_cases c2:len< -10*(h1-h2)
       · simp(disch:=omega)only[go_sem,K.fJ,↓reduceIte,g,p1,p2,w2,w3,gt_iff_lt,Int.zero_sub,reduceAdd,reduceSub]
       · by_cases c1:len<10*(h1-h2)
         · simp(disch:=omega)only[go_sem,K.fJ,↓reduceIte,g,p1,p2,w2,w3,gt_iff_lt,Int.zero_sub,reduceAdd,reduceSub]
         · simp(disch:=omega)only[go_sem,K.fJ,↓reduceIte,g,p1,p2,w2,w3,gt_iff_lt,Int.zero_sub,reduceAdd,reduceSub]
     | false=>
       simp only[aLt,↓reduceIte]
       generalize nth m.aa frm.toNat=q1 at*
       generalize nth m.aa to.toNat=q2 at*
       obtain⟨h1,s1⟩:=q1
       obtain⟨h2,s2⟩:=q2
       obtain⟨aa,roads⟩:=m
       simp only at*
       obtain⟨w2,w3⟩:=key h2 h1 (by omega) (by omega) (by omega) (by omega)
       by_cases c2:len< -10*(h2-h1)
       · simp(disch:=omega)only[go_sem,K.fJ,↓reduceIte,g,p1,p2,w2,gt_iff_lt,reduceAdd,reduceSub]
       · by_cases c1:len<10*(h2-h1)
         · simp(disch:=omega)only[go_sem,K.fJ,↓reduceIte,g,p1,p2,w2,gt_iff_lt,reduceAdd,reduceSub]
         · simp(disch:=omega)only[go_sem,K.fJ,↓reduceIte,g,p1,p2,w2,gt_iff_lt,reduceAdd,reduceSub]
theorem T2{m:aB}(h:m.ok)(k:Nat)(hk:k<m.roads.length)(back:Bool):aD 0 N.lA [.t m.e,I k,B back] []=some (I (iN m k back 6 9 12),[]):=by
 have q:=T1
 have w:=Qo h k hk back 6 9 12 (by omega) (by omega) (by omega) (by omega) (by omega) (by omega)
 have v:=iQ h
 have nr:=h.nr
 have s:aD 0 N.lB [.t m.e,I k,B back] []=some (I (iN m k back 6 9 12),[]):=by
  refine ao K.xR rfl ?_
  generalize iN m k back 6 9 12=r at*
  obtain⟨aa,roads⟩:=m
  simp(disch:=omega)only[go_sem,K.lB,↓reduceIte,q,w,reduceAdd,reduceSub]
 refine ao K.xQ rfl ?_
 generalize iN m k back 6 9 12=r at*
 obtain⟨aa,roads⟩:=m
 simp only at*
 simp(disch:=omega)only[go_sem,K.lA,↓reduceIte,v,s,reduceAdd,reduceSub]
theorem Zw(q:Int):aD 0 N.fP [I q] []=some (B true,[]):=by
 refine ao K.uY rfl ?_
 simp(disch:=omega)only[go_sem,K.fP,↓reduceIte,reduceAdd,reduceSub]
theorem T3(q:Int)(l:List Int)(hl:l.length≤4294967296):aD 0 N.c8 [I q,.bp 0 0] [.box [.t (tL l)]]=some (B (decide (q∈l)),[.box [.t (tL l)]]):=by
 refine ao K.nG rfl ?_
 have c:=pI l q hl
 simp(disch:=omega)only[go_sem,K.c8,↓reduceIte,c,reduceAdd,reduceSub]
def smE(into:Option (List Int)):aq:=match into with
 | none=>[]
 | some s=>[.box [.t (tL s)]]
def smD(into:Option (List Int)):D:=match into with
 | none=> .fn N.fP []
 | some _=> .fn N.c8 [.bp 5 0]
def smK(into:Option (List Int)):Nat:=match into with
 | none=>5
 | some _=>6
@[go_sem] theorem ale (H : aq) (len j : Nat) (ts : List T) (h : j < len) : aiF H len 1 false (.t (.agg ts)) j = (ts[j]?).map fun t => (.t t, H) := by
 have h0:len≠0:=by omega
 unfold aiF GO
 rw[if_neg h0,if_pos h]
 unfold B4 cut
 simp only[D.isAgg,D.cells,T.cells,if_true,Nat.mul_one,List.length_map]
 by_cases hj:j<ts.length
 · rw[if_pos (by omega),aLc hj]
   have e:((ts.map D.t).drop j).take 1=[D.t ts[j]]:=by
    rw[List.drop_eq_getElem_cons (by simpa using hj)];simp
   rw[e];rfl
 · rw[if_neg (by omega),aLm (by omega)];rfl
def Qp(into:Option (List Int))(l:List Int)(q:Nat)(x:Int):Bool:=decide (x≤2147483648∧x<nth l q)&&PZ into q
theorem Zx(into:Option (List Int))(hi:∀s,into=some s→s.length≤64)(l:List Int)(hl:l.length≤64)(hb:bnd l)(p:Int)(q:Nat)(hq:q<l.length)(n t:Int)(ch:Bool):
 aD 0 N.bw [I p,I q,I n,.bp 0 0,.bp 1 0,.bp 2 0,.bp 3 0] (.box [I t]:: .box [.ref 4 0 l.length]:: .box [smD into]:: .box [B ch]::kF l::smE into)=
  some (.tup [],if Qp into l q (max n t)=true then .box [I t]:: .box [.ref 4 0 l.length]:: .box [smD into]:: .box [B true]::kF (l.set q (max n t))::smE into
   else .box [I t]:: .box [.ref 4 0 l.length]:: .box [smD into]:: .box [B ch]::kF l::smE into):=by
 refine ao K.mL rfl ?_
 have ln:(l.set q (max n t)).length=l.length:=List.length_set ..
 have a:=Zw q
 have b:=hb _ (ai hq)
 unfold Qp
 cases into with
 | none=>
   simp only[smE,smD,PZ,Bool.and_true,decide_eq_true_eq]
   by_cases c1:max n t≤2147483648
   · by_cases c2:max n t<nth l q
     · simp(disch:=omega)only[go_sem,K.bw,↓reduceIte,a,c1,c2,and_self,reduceAdd,reduceSub]
     · simp(disch:=omega)only[go_sem,K.bw,↓reduceIte,c1,c2,and_false,reduceAdd,reduceSub]
   · simp(disch:=omega)only[go_sem,K.bw,↓reduceIte,c1,false_and,reduceAdd,reduceSub]
 | some s=>
   have a2:=T3 q s (by have:=hi s rfl;omega)
   simp only[smE,smD,PZ]
   by_cases c1:max n t≤2147483648
   · by_cases c2:max n t<nth l q
     · by_cases c3:(q:Int)∈s
       · simp only[c3,decide_true]at a2
         simp(disch:=omega)only[go_sem,K.bw,↓reduceIte,a2,c1,c2,c3,and_self,decide_true,Bool.and_true,reduceAdd,reduceSub]
       · simp only[c3,decide_false]at a2
         simp(disch:=omega)only[go_sem,K.bw,↓reduceIte,a2,c1,c2,c3,and_self,decide_false,Bool.and_false,reduceAdd,reduceSub]
     · simp(disch:=omega)only[go_sem,K.bw,↓reduceIte,c1,c2,and_false,decide_false,Bool.false_and,reduceAdd,reduceSub]
   · simp(disch:=omega)only[go_sem,K.bw,↓reduceIte,c1,false_and,decide_false,Bool.false_and,reduceAdd,reduceSub]
theorem T4{m:aB}(h:m.ok)(t:Int)(into:Option (List Int)){k:Nat}(hk:k<m.roads.length)(back:Bool)(l:List Int):
 gR m t into k back l=if 0≤iN m k back 6 9 12∧nth l ((nth m.roads k).src back).toNat<1099511627776∧Qp into l ((nth m.roads k).dst back).toNat (max (nth l ((nth m.roads k).src back).toNat+iN m k back 6 9 12) t)=true
  then(l.set ((nth m.roads k).dst back).toNat (max (nth l ((nth m.roads k).src back).toNat+iN m k back 6 9 12) t),true)else(l,false):=by
 have r2:=Road.Er (h.rs _ (ai hk)) back
 unfold gR Qp pJ oK
 have e:(((nth m.roads k).dst back).toNat:Int)=(nth m.roads k).dst back:=by omega
 rw[e]
 generalize (nth m.roads k).dst back=d at*
 generalize ((nth m.roads k).src back).toNat=s at*
 generalize iN m k back 6 9 12=v at*
 rw[Int.max_comm t]
 generalize max (nth l s+v) t=x at*
 cases PZ into d with
 | false=>simp
 | true=>
   simp only[↓reduceIte,Bool.and_true,aLr,decide_eq_true_eq]
   by_cases c:((0≤v∧nth l s<1099511627776)∧x≤2147483648)∧x<nth l d.toNat
   · obtain⟨⟨⟨c1,c2⟩,c3⟩,c4⟩:=c
     simp[c1,c2,c3,c4]
   · have c':¬(0≤v∧nth l s<1099511627776∧x≤2147483648∧x<nth l d.toNat):=fun h=>c ⟨⟨⟨h.1,h.2.1⟩,h.2.2.1⟩,h.2.2.2⟩
     rw[if_neg c,if_neg c']
     simp only[Prod.mk.injEq,true_and]
     have:(decide (0≤v)&&decide (nth l s<1099511627776)&&decide (x≤2147483648)&&decide (x<nth l d.toNat))=false:=by
      rw[Bool.eq_false_iff];intro h;simp only[aLr,decide_eq_true_eq]at h;exact c h
     exact this
abbrev Qq:D:= .fn N.bw [.bp 1 0,.bp 2 0,.bp 3 0,.bp 4 0]
abbrev CS(into:Option (List Int))(t:Int)(s:List Int×Bool):aq:=kF s.1:: .box [I t]:: .box [.ref 0 0 s.1.length]:: .box [smD into]:: .box [B s.2]::smE into
abbrev Aq(x:Road):List D:=[I x.frm,I x.to,I x.len,I x.area,B x.walk,B x.closed,I x.ng,I x.restH,I x.liftL,I x.liftH]
theorem Ez{m:aB}(h:m.ok)(t:Int)(ht:0≤t)(ht2:t≤1000000000000)(into:Option (List Int))(hi:∀s,into=some s→s.length≤64)(l:List Int)(hl:l.length=m.aa.length)(hb:bnd l)(ch:Bool){k:Nat}(hk:k<m.roads.length)(back:Bool):
 gE true [0,6,7,8,9] (CS into t (l,ch)++[Obj.box (ae m),Obj.box (Aq (nth m.roads k))]).length (exS aD K.fR ⟨[.und,.ref 0 0 l.length,Qq,.bp (smK into) 0,I k,.bp (smK into+1) 0,.und,.und,.und,.und,.t (.sl (m.roads.map Road.e)),I m.roads.length,I k,.t (.agg [.bool false,.bool true]),I (if back then 1 else 0:Nat)],CS into t (l,ch)++[.box (ae m),.box (Aq (nth m.roads k))]⟩)=
  some ⟨[.und,.ref 0 0 l.length,Qq,.bp (smK into) 0,I k,.bp (smK into+1) 0,.und,.und,.und,.und,.t (.sl (m.roads.map Road.e)),I m.roads.length,I k,.t (.agg [.bool false,.bool true]),I ((if back then 1 else 0:Nat)+1)],CS into t ((gR m t into k back l).1,ch||(gR m t into k back l).2)++[.box (ae m),.box (Aq (nth m.roads k))]⟩:=by
 have np:=h.np
 have nr:=h.nr
 have ok:=h.rs _ (ai hk)
 have r1:=Road.AL ok back
 have r2:=Road.Er ok back
 have wt:=T2 h k hk back
 have wl:=Ft h k hk back
 have b1:=hb _ (ai (l:=l) (j:=((nth m.roads k).src back).toNat) (by omega))
 have lo:=Zx into hi l (by omega) hb ((nth m.roads k).src back) ((nth m.roads k).dst back).toNat (by omega) (nth l ((nth m.roads k).src back).toNat+iN m k back 6 9 12) t ch
 have e:(((nth m.roads k).dst back).toNat:Int)=(nth m.roads k).dst back:=by omega
 rw[e]at lo
 rw[T4 h t into hk back l]
 have ls:∀x,(l.set ((nth m.roads k).dst back).toNat x).length=l.length:=fun x=>List.length_set ..
 generalize iN m k back 6 9 12=v at*
 generalize hx:nth m.roads k=x at*
 clear hx ok
 obtain⟨frm,to,len,area,walk,closed,rl,rh,ll,lh⟩:=x
 obtain⟨aa,roads⟩:=m
 simp only at hl np nr hk
 have h01:(1:Int)=0+1:=rfl
 by_cases c1:0≤v
 · by_cases c2:nth l ((Road.mk frm to len area walk closed rl rh ll lh).src back).toNat<1099511627776
   · cases c3:Qp into l ((Road.mk frm to len area walk closed rl rh ll lh).dst back).toNat (max (nth l ((Road.mk frm to len area walk closed rl rh ll lh).src back).toNat+v) t)<;>
     cases back<;>simp only[Road.src,Road.dst,aLt,↓reduceIte]at* <;>simp only[c1,c2,c3,and_true,true_and,and_self,and_false,aLt,↓reduceIte]at lo ⊢ <;>
     cases into<;>simp only[smE,smD,smK,ae,Aq,CS,List.cons_append,List.nil_append]at* <;>
     simp(disch:=omega)only[go_sem,K.fR,↓reduceIte,wt,lo,c1,c2,ls,Bool.or_true,Bool.or_false,reduceAdd,reduceSub]
   · cases back<;>simp only[Road.src,Road.dst,aLt,↓reduceIte]at* <;>simp only[c1,c2,false_and,and_false,↓reduceIte]<;>
     cases into<;>simp only[smE,smD,smK,ae,Aq,CS,List.cons_append,List.nil_append]at* <;>
     simp(disch:=omega)only[go_sem,K.fR,↓reduceIte,wt,c1,c2,Bool.or_false,reduceAdd,reduceSub]
 · cases back<;>simp only[Road.src,Road.dst,aLt,↓reduceIte]at* <;>simp only[c1,false_and,↓reduceIte]<;>
   cases into<;>simp only[smE,smD,smK,ae,Aq,CS,List.cons_append,List.nil_append]at* <;>
   simp(disch:=omega)only[go_sem,K.fR,↓reduceIte,wt,c1,Bool.or_false,reduceAdd,reduceSub]
theorem T5{m:aB}(h:m.ok)(t:Int)(ht:0≤t)(ht2:t≤1000000000000)(into:Option (List Int))(hi:∀s,into=some s→s.length≤64)(l:List Int)(hl:l.length=m.aa.length)(hb:bnd l)(ch:Bool){k:Nat}(hk:k<m.roads.length):
 gE true [0,4,5,6,7,8,9,13,14] (CS into t (l,ch)++[Obj.box (ae m)]).length (exS aD K.jE ⟨[.und,.ref 0 0 l.length,Qq,.bp (smK into) 0,.und,.und,.und,.und,.und,.und,.t (.sl (m.roads.map Road.e)),I m.roads.length,I k,.und,.und],CS into t (l,ch)++[.box (ae m)]⟩)=
  some ⟨[.und,.ref 0 0 (xO m t into k (l,ch)).1.length,Qq,.bp (smK into) 0,.und,.und,.und,.und,.und,.und,.t (.sl (m.roads.map Road.e)),I m.roads.length,I (k+1),.und,.und],CS into t (xO m t into k (l,ch))++[.box (ae m)]⟩:=by
 have nr:=h.nr
 have g:(m.roads.map Road.e)[k]?=some (nth m.roads k).e:=b8 _ hk
 have h1:=Ez h t ht ht2 into hi l hl hb ch hk false
 have l1:(gR m t into k false l).1.length=l.length:=rQ ..
 have l2:(gR m t into k true (gR m t into k false l).1).1.length=l.length:=by rw[rQ,l1]
 have h2:=Ez h t ht ht2 into hi (gR m t into k false l).1 (by omega) (uV h hl hb hk false) (ch||(gR m t into k false l).2) hk true
 have st:xO m t into k (l,ch)=((gR m t into k true (gR m t into k false l).1).1,ch||(gR m t into k false l).2||(gR m t into k true (gR m t into k false l).1).2):=rfl
 rw[st]
 simp only[l1,l2,aLt,↓reduceIte]at h1 h2 ⊢
 have inner:∀z0 z6 z7 z8 z9:D,exS aD K.qo ⟨[z0,.ref 0 0 l.length,Qq,.bp (smK into) 0,I k,.bp (smK into+1) 0,z6,z7,z8,z9,.t (.sl (m.roads.map Road.e)),I m.roads.length,I k,.t (.agg [.bool false,.bool true]),I 0],CS into t (l,ch)++[.box (ae m),.box (Aq (nth m.roads k))]⟩=
  some (.exit 2,⟨[.und,.ref 0 0 l.length,Qq,.bp (smK into) 0,I k,.bp (smK into+1) 0,.und,.und,.und,.und,.t (.sl (m.roads.map Road.e)),I m.roads.length,I k,.t (.agg [.bool false,.bool true]),I 2],
   CS into t ((gR m t into k true (gR m t into k false l).1).1,ch||(gR m t into k false l).2||(gR m t into k true (gR m t into k false l).1).2)++[.box (ae m),.box (Aq (nth m.roads k))]⟩):=by
  intro z0 z6 z7 z8 z9
  refine bk (fun j=>⟨[.und,.ref 0 0 l.length,Qq,.bp (smK into) 0,I k,.bp (smK into+1) 0,.und,.und,.und,.und,.t (.sl (m.roads.map Road.e)),I m.roads.length,I k,.t (.agg [.bool false,.bool true]),I j],
   CS into t (match j with | 0=>(l,ch) | 1=>((gR m t into k false l).1,ch||(gR m t into k false l).2) | _=>((gR m t into k true (gR m t into k false l).1).1,ch||(gR m t into k false l).2||(gR m t into k true (gR m t into k false l).1).2))++[.box (ae m),.box (Aq (nth m.roads k))]⟩) 2 rfl ?_ ?_ (by simp)
  · intro j hj
    have hj2:j=0∨j=1:=by omega
    rcases hj2 with rfl | rfl
    · exact h1
    · exact h2
  · clear h1 h2
    cases into<;>simp only[smE,smD,smK,ae,Aq,CS,List.cons_append,List.nil_append]<;>
    simp(disch:=omega)only[go_sem,K.fR,↓reduceIte,reduceAdd,reduceSub]
 clear h1 h2 st
 generalize gR m t into k true (gR m t into k false l).1=b2 at*
 generalize gR m t into k false l=b1 at*
 generalize hx:nth m.roads k=x at*
 clear hx
 obtain⟨frm,to,len,area,walk,closed,rl,rh,ll,lh⟩:=x
 obtain⟨aa,roads⟩:=m
 simp only at nr hk
 cases into<;>simp only[smE,smD,smK,ae,Aq,CS,List.cons_append,List.nil_append]at* <;>
 simp(disch:=omega)only[go_sem,K.jE,↓reduceIte,g,inner,l2,reduceAdd,reduceSub]
theorem JV{m:aB}(h:m.ok)(t:Int)(ht:0≤t)(ht2:t≤1000000000000)(into:Option (List Int))(hi:∀s,into=some s→s.length≤64)(l:List Int)(hl:l.length=m.aa.length)(hb:bnd l)(ch:Bool):
 aD 0 N.dY [.t m.e,.ref 0 0 l.length,Qq] (CS into t (l,ch))=some (.tup [],CS into t ((ef m t into l).1,ch||(ef m t into l).2)):=by
 refine ao K.nH rfl ?_
 have nr:=h.nr
 have ls:=fun k=>eG m t into l k
 have loop:∀z0 z4 z5 z6 z7 z8 z9 z13 z14:D,exS aD K.qp ⟨[z0,.ref 0 0 l.length,Qq,.bp (smK into) 0,z4,z5,z6,z7,z8,z9,.t (.sl (m.roads.map Road.e)),I m.roads.length,I 0,z13,z14],CS into t (l,ch)++[.box (ae m)]⟩=
  some (.exit 0,⟨[.und,.ref 0 0 l.length,Qq,.bp (smK into) 0,.und,.und,.und,.und,.und,.und,.t (.sl (m.roads.map Road.e)),I m.roads.length,I m.roads.length,.und,.und],CS into t ((ef m t into l).1,ch||(ef m t into l).2)++[.box (ae m)]⟩):=by
  intro z0 z4 z5 z6 z7 z8 z9 z13 z14
  refine bk (fun j=>⟨[.und,.ref 0 0 l.length,Qq,.bp (smK into) 0,.und,.und,.und,.und,.und,.und,.t (.sl (m.roads.map Road.e)),I m.roads.length,I j,.und,.und],CS into t ((gH m t into l j).1,ch||(gH m t into l j).2)++[.box (ae m)]⟩) m.roads.length ?_ ?_ ?_ (by simp)
  · simp only[gH,Bool.or_false];rfl
  · intro j hj
    have r:=T5 h t ht ht2 into hi (gH m t into l j).1 (by rw[ls,hl]) (jV h hl hb j (by omega)) (ch||(gH m t into l j).2) hj
    have e:xO m t into j ((gH m t into l j).1,ch||(gH m t into l j).2)=((gH m t into l (j+1)).1,ch||(gH m t into l (j+1)).2):=by
     simp only[gH,xO,Bool.or_assoc]
    rw[e]at r
    simp only[ls]at r
    exact r
  · clear ls
    cases into<;>simp only[smE,smD,smK,ae,Aq,CS,List.cons_append,List.nil_append]<;>
    simp(disch:=omega)only[go_sem,K.jE,↓reduceIte,ef,reduceAdd,reduceSub]
 have l2:(ef m t into l).1.length=l.length:=by unfold ef;rw[ls]
 clear ls
 generalize ef m t into l=r at*
 obtain⟨r1,r2⟩:=r
 obtain⟨aa,roads⟩:=m
 simp only at nr hl l2
 cases into<;>simp only[smE,smD,smK,ae,Aq,CS,List.cons_append,List.nil_append]at* <;>
 simp(disch:=omega)only[go_sem,K.dY,↓reduceIte,loop,l2,reduceAdd,reduceSub]
section
variable (a0 a1 a2 a3 a4 a5 x y : Obj) (ds : aq)
theorem Ww:(a0::a1::a2::a3::a4::(ds++[x]))[ds.length+5]?=some x:=by simp
theorem afk:(a0::a1::a2::a3::a4::(ds++[x])).set (ds.length+5) y=a0::a1::a2::a3::a4::(ds++[y]):=by simp
theorem Wx:(a0::a1::a2::a3::a4::a5::(ds++[x]))[ds.length+6]?=some x:=by simp
theorem afl:(a0::a1::a2::a3::a4::a5::(ds++[x])).set (ds.length+6) y=a0::a1::a2::a3::a4::a5::(ds++[y]):=by simp
theorem Wy(u:Obj):(ds++[u]++[x])[ds.length+1]?=some x:=by simp
theorem Zy(u:Obj):(a0::a1::a2::a3::a4::(ds++[u]++[x])).set (ds.length+1+1+1+1+1+1) y=a0::a1::a2::a3::a4::(ds++[u]++[y]):=by simp
theorem Zz(u:Obj):(a0::a1::a2::a3::a4::a5::(ds++[u]++[x])).set (ds.length+1+1+1+1+1+1+1) y=a0::a1::a2::a3::a4::a5::(ds++[u]++[y]):=by simp
theorem afm:(ds++[x]).length=ds.length+1:=by simp
end
@[go_sem] theorem ahT (n : Nat) : eqB n n = true := by
 induction n with
 | zero=>rfl
 | succ n ih=>exact ih
abbrev Wz(m:aB)(into:Option (List Int))(t:Int)(l:List Int)(ds:aq)(c:Bool):aq:=match into with
 | none=> .box (ae m):: .box [I t]:: .box [.fn N.fP []]::kF l:: .box [.ref 3 0 l.length]::(ds++[.box [B c]])
 | some s=> .box [.t (tL s)]:: .box (ae m):: .box [I t]:: .box [.fn N.c8 [.bp 0 0]]::kF l:: .box [.ref 4 0 l.length]::(ds++[.box [B c]])
abbrev JW(m:aB)(into:Option (List Int))(t:Int)(l:List Int)(ds:aq)(c:Bool):St:=match into with
 | none=>⟨[.und,.und,.und,.und,.bp 0 0,.bp 1 0,.bp 2 0,.und,.bp 4 0,.bp (ds.length+5) 0,.und],Wz m none t l ds c⟩
 | some s=>⟨[.und,.und,.und,.und,.bp 1 0,.bp 2 0,.bp 3 0,.und,.bp 5 0,.bp (ds.length+6) 0,.und],Wz m (some s) t l ds c⟩
theorem Qr{m:aB}(h:m.ok)(t:Int)(ht:0≤t)(ht2:t≤1000000000000)(into:Option (List Int))(hi:∀s,into=some s→s.length≤64)(l:List Int)(hl:l.length=m.aa.length)(hb:bnd l)(ds:aq)(k:Nat):
 gE false [0,1,2,3,7,10] k (exS aD K.dU (JW m into t l ds true))=some (JW m into t (ef m t into l).1 (ds++[.box [B (ef m t into l).2]]) (ef m t into l).2):=by
 have nr:=h.nr
 have ar:=JV h t ht ht2 into hi l hl hb false
 have l2:(ef m t into l).1.length=l.length:=by unfold ef;rw[eG]
 cases into with
 | none=>
   generalize ef m t none l=r at*
   obtain⟨r1,r2⟩:=r
   obtain⟨aa,roads⟩:=m
   simp only[Wz,JW,CS,smE,smD,ae,Bool.false_or]at*
   simp(disch:=omega)only[go_sem,K.dU,↓reduceIte,ar,Ww,afk,afm,l2,Wy,Zy,reduceAdd,reduceSub]
 | some s=>
   generalize ef m t (some s) l=r at*
   obtain⟨r1,r2⟩:=r
   obtain⟨aa,roads⟩:=m
   simp only[Wz,JW,CS,smE,smD,ae,Bool.false_or]at*
   simp(disch:=omega)only[go_sem,K.dU,↓reduceIte,ar,Wx,afl,afm,l2,Wy,Zz,reduceAdd,reduceSub]
theorem T6(m:aB)(into:Option (List Int))(t:Int)(l:List Int)(ds:aq):exS aD K.dU (JW m into t l ds false)=some (.exit 0,JW m into t l ds false):=by
 obtain⟨aa,roads⟩:=m
 cases into with
 | none=>
   simp only[Wz,JW,ae]
   simp(disch:=omega)only[go_sem,K.dU,↓reduceIte,Ww,reduceAdd,reduceSub]
 | some s=>
   simp only[Wz,JW,ae]
   simp(disch:=omega)only[go_sem,K.dU,↓reduceIte,Wx,reduceAdd,reduceSub]
theorem FA{m:aB}(h:m.ok)(t:Int)(ht:0≤t)(ht2:t≤1000000000000)(into:Option (List Int))(hi:∀s,into=some s→s.length≤64):∀(n:Nat) (l:List Int) (ds:aq),BQ l<n→l.length=m.aa.length→bnd l→
 ∃ds',nW false [0,1,2,3,7,10] (exS aD K.dU) (JW m into t l ds true)=some (.exit 0,JW m into t (ju (ef m t into) n l) ds' false)
 | 0,l,ds,hn,_,_=>absurd hn (by omega)
 | n+1,l,ds,hn,hl,hb=>by
   have r:=Qr h t ht ht2 into hi l hl hb ds (JW m into t l ds true).H.length
   have s:=(rR h (t:=t) (into:=into) hl hb m.roads.length (aLs _)).1
   change (ef m t into l).2=true→BQ (ef m t into l).1<BQ l at s
   unfold ju
   cases hc:(ef m t into l).2 with
   | true=>
     rw[hc]at r
     obtain⟨ds',h2⟩:=FA h t ht ht2 into hi n (ef m t into l).1 _ (by have:=s hc;omega) (by unfold ef;rw[eG,hl]) (jV h hl hb _ (aLs _))
     exact⟨ds',fL r h2⟩
   | false=>
     rw[hc]at r
     exact⟨_,fL r (eD (T6 m into t _ _) (by simp))⟩
theorem EA{m:aB}(h:m.ok)(t:Int)(ht:0≤t)(ht2:t≤1000000000000)(l:List Int)(hl:l.length=m.aa.length)(hb:bnd l):
 aD 0 N.dj [.t m.e,.t (tL l),I t,.fn N.fP []] []=some (.t (tL (dN m t none l)),[])∧
 ∀s:List Int,s.length≤64→aD 1 N.dj [.t m.e,.t (tL l),I t,.fn N.c8 [.bp 0 0]] [.box [.t (tL s)]]=some (.ref 1 0 l.length,[.box [.t (tL s)],kF (dN m t (some s) l)]):=by
 have np:=h.np
 have c1:=y9 l (by omega)
 have ln:∀into,(dN m t into l).length=l.length:=by
  intro into
  have key:∀n l,(ju (ef m t into) n l).length=l.length:=by
   intro n
   induction n with
   | zero=>intro l;rfl
   | succ n ih=>
     intro l
     unfold ju
     split
     · rw[ih];unfold ef;rw[eG]
     · unfold ef;rw[eG]
  exact key _ _
 refine⟨ao K.lK rfl ?_,fun s hs=>ao K.lK rfl ?_⟩
 · obtain⟨ds,lp⟩:=FA h t ht ht2 none (by simp) (BQ l+1) l [] (Nat.lt_succ_self _) hl hb
   have ln:=ln none
   have lp:∀z0 z1 z2 z3 z7 z10:D,exS aD K.nF ⟨[z0,z1,z2,z3,.bp 0 0,.bp 1 0,.bp 2 0,z7,.bp 4 0,.bp 5 0,z10],[.box (ae m),.box [I t],.box [.fn N.fP []],kF l,.box [.ref 3 0 l.length],.box [B true]]⟩=some (.exit 0,JW m none t (dN m t none l) ds false):=fun z0 z1 z2 z3 z7 z10=>lp
   generalize dN m t none l=r at*
   obtain⟨aa,roads⟩:=m
   simp only[Wz,JW,ae]at*
   simp(disch:=omega)only[go_sem,K.dj,↓reduceIte,c1,lp,ln,reduceAdd,reduceSub]
 · obtain⟨ds,lp⟩:=FA h t ht ht2 (some s) (by intro s' h;cases h;exact hs) (BQ l+1) l [] (Nat.lt_succ_self _) hl hb
   have l2:=ln (some s)
   clear ln
   have lp:∀z0 z1 z2 z3 z7 z10:D,exS aD K.nF ⟨[z0,z1,z2,z3,.bp 1 0,.bp 2 0,.bp 3 0,z7,.bp 5 0,.bp 6 0,z10],[.box [.t (tL s)],.box (ae m),.box [I t],.box [.fn N.c8 [.bp 0 0]],kF l,.box [.ref 4 0 l.length],.box [B true]]⟩=some (.exit 0,JW m (some s) t (dN m t (some s) l) ds false):=fun z0 z1 z2 z3 z7 z10=>lp
   generalize dN m t (some s) l=r at*
   obtain⟨aa,roads⟩:=m
   simp only[Wz,JW,ae]at*
   simp(disch:=omega)only[go_sem,K.dj,↓reduceIte,c1,lp,l2,reduceAdd,reduceSub]
end Go.Ev
namespace Go.Ev
open Go
variable [Lib] [cu] [bM]
theorem nZ{gc:Bool}{dead:List Nat}{c:C}{vs:List D}{H:aq}(s:Nat→St)(n:Nat)(p:Nat→Bool)(P:Nat→Ex×St→Prop)(eN:Ex×St)
 (h0:(⟨mr dead vs,H⟩:St)=s 0) (hs:∀j,j<n→p j=false→gE gc dead (s j).H.length (exS aD c (s j))=some (s (j+1)))
 (he:∀j,j<n→p j=true→∃q,exS aD c (s j)=some q∧q.1≠ .normal∧P j q) (hN:exS aD c (s n)=some eN) (hn:eN.1≠ .normal):
 ((List.range n).find? p=none∧exS aD (.loop gc dead c) ⟨vs,H⟩=some eN)∨∃j q,(List.range n).find? p=some j∧exS aD (.loop gc dead c) ⟨vs,H⟩=some q∧P j q:=by
 classical
 let e:Nat→Ex×St:=fun j=>if h:j<n∧p j=true then Classical.choose (he j h.1 h.2)else eN
 have h2:∀j,j<n→p j=true→exS aD c (s j)=some (e j)∧(e j).1≠ .normal∧P j (e j):=by
  intro j hj hp
  have e1:e j=Classical.choose (he j hj hp):=dif_pos ⟨hj,hp⟩
  rw[e1]
  exact Classical.choose_spec (he j hj hp)
 have:=cH s n p e eN h0 hs (fun j hj hp=>⟨(h2 j hj hp).1,(h2 j hj hp).2.1⟩) hN hn
 cases hf:(List.range n).find? p with
 | none=>rw[hf]at this;exact .inl ⟨rfl,this⟩
 | some j=>
   rw[hf]at this
   obtain⟨h3,h4⟩:=CI hf
   exact .inr ⟨j,e j,rfl,this,(h2 j h3 h4).2.2⟩
def u9(a b:List Int):Bool:=match (List.range (min a.length b.length)).find? (fun j=>decide (nth a j≠nth b j))with
 | some j=>decide (nth a j<nth b j)
 | none=>decide (a.length<b.length)
theorem JX(a b:List Int)(ha:a.length≤1000000)(hb:b.length≤1000000):aD 0 N.jk [.t (tL a),.t (tL b)] []=some (B (u9 a b),[]):=by
 refine ao K.uM rfl ?_
 have loop:∀c:D,exS aD K.yT ⟨[.t (tL a),.t (tL b),c,I 0],[]⟩=
  some (match (List.range (min a.length b.length)).find? (fun j=>decide (nth a j≠nth b j))with
   | some j=>(.ret,⟨[.t (tL a),.t (tL b),B (decide (nth a j<nth b j)),I j],[]⟩)
   | none=>(.exit 0,⟨[.t (tL a),.t (tL b),.und,I (min a.length b.length:Nat)],[]⟩)):=by
  intro c
  refine cH (fun j=>⟨[.t (tL a),.t (tL b),.und,I j],[]⟩) (min a.length b.length) (fun j=>decide (nth a j≠nth b j)) _ _ rfl ?_ ?_ ?_ (by simp)
  · intro j hj hp
    have hp:nth a j=nth b j:=by simpa using hp
    simp(disch:=omega)only[go_sem,K.jU,↓reduceIte]
  · intro j hj hp
    have hp:nth a j≠nth b j:=by simpa using hp
    refine⟨?_,by simp⟩
    by_cases h1:nth a j<nth b j
    · simp(disch:=omega)only[go_sem,K.jU,↓reduceIte,h1,decide_true]
    · simp(disch:=omega)only[go_sem,K.jU,↓reduceIte,h1,decide_false]
  · by_cases h1:a.length≤b.length
    · have e:min a.length b.length=a.length:=by omega
      rw[e]
      simp(disch:=omega)only[go_sem,K.jU,↓reduceIte]
    · have e:min a.length b.length=b.length:=by omega
      rw[e]
      simp(disch:=omega)only[go_sem,K.jU,↓reduceIte]
 unfold u9
 simp(disch:=omega)only[go_sem,K.jk,↓reduceIte,loop]
 cases hf:(List.range (min a.length b.length)).find? (fun j=>decide (nth a j≠nth b j))with
 | some j=>simp(disch:=omega)only[go_sem,↓reduceIte]
 | none=>
   by_cases h1:a.length<b.length
   · simp(disch:=omega)only[go_sem,↓reduceIte,h1,decide_true]
   · simp(disch:=omega)only[go_sem,↓reduceIte,h1,decide_false]
def cN(l:List Int)(x:Int):Int:=match (List.range l.length).find? (fun j=>decide (nth l j=x))with
 | some j=>j
 | none=> -1
theorem pL(l:List Int)(x:Int)(hl:l.length≤1000000):aD 0 N.dS [.t (tL l),I x] []=some (I (cN l x),[]):=by
 refine ao K.qI rfl ?_
 have loop:∀c:D,exS aD K.uH ⟨[.t (tL l),I x,c,I 0],[]⟩=
  some (match (List.range l.length).find? (fun j=>decide (nth l j=x))with
   | some j=>(.ret,⟨[.t (tL l),I x,I j,I j],[]⟩)
   | none=>(.exit 0,⟨[.t (tL l),I x,.und,I l.length],[]⟩)):=by
  intro c
  refine cH (fun j=>⟨[.t (tL l),I x,.und,I j],[]⟩) l.length (fun j=>decide (nth l j=x)) _ _ rfl ?_ ?_ ?_ (by simp)
  · intro j hj hp
    have hp:¬nth l j=x:=by simpa using hp
    simp(disch:=omega)only[go_sem,K.lJ,↓reduceIte]
  · intro j hj hp
    have hp:nth l j=x:=by simpa using hp
    refine⟨?_,by simp⟩
    simp(disch:=omega)only[go_sem,K.lJ,↓reduceIte,hp]
  · simp(disch:=omega)only[go_sem,K.lJ,↓reduceIte]
 unfold cN
 simp(disch:=omega)only[go_sem,K.dS,↓reduceIte,loop]
 cases hf:(List.range l.length).find? (fun j=>decide (nth l j=x))with
 | some j=>simp(disch:=omega)only[go_sem,↓reduceIte]
 | none=>simp(disch:=omega)only[go_sem,↓reduceIte]
theorem Ar{l:List Int}{x:Int}(h:0≤cN l x):cN l x<l.length∧nth l (cN l x).toNat=x:=by
 unfold cN at h ⊢
 cases hf:(List.range l.length).find? (fun j=>decide (nth l j=x))with
 | some j=>
   obtain⟨h1,h2⟩:=CI hf
   simp only[Int.toNat_natCast]
   exact⟨by omega,of_decide_eq_true h2⟩
 | none=>rw[hf]at h;simp at h
def pM(l:List Int)(j:Nat):Bool:=decide (1≤nth l j∧nth l j≤65535∧cN (l.take j) (nth l j)<0)
def iG(l:List Int):Bool:=(List.range l.length).all (pM l)
theorem HK(l:List Int)(hl:l.length≤1000000):aD 0 N.gv [.t (tL l)] []=some (B (iG l),[]):=by
 refine ao K.qD rfl ?_
 have loop:∀c:D,exS aD K.uF ⟨[.t (tL l),c,I 0],[]⟩=
  some (match (List.range l.length).find? (fun j=> !pM l j)with
   | some j=>(.ret,⟨[.t (tL l),B false,I j],[]⟩)
   | none=>(.exit 0,⟨[.t (tL l),.und,I l.length],[]⟩)):=by
  intro c
  refine cH (fun j=>⟨[.t (tL l),.und,I j],[]⟩) l.length (fun j=> !pM l j) _ _ rfl ?_ ?_ ?_ (by simp)
  · intro j hj hp
    have hp:pM l j=true:=by simpa using hp
    have b:=pL (l.take j) (nth l j) (by rw[List.length_take];omega)
    simp only[pM,decide_eq_true_eq]at hp
    simp only[tL,List.map_take]at b
    simp(disch:=omega)only[go_sem,K.iI,↓reduceIte,b]
  · intro j hj hp
    have hp:pM l j=false:=by simpa using hp
    have b:=pL (l.take j) (nth l j) (by rw[List.length_take];omega)
    simp only[pM,decide_eq_false_iff_not]at hp
    simp only[tL,List.map_take]at b
    refine⟨?_,by simp⟩
    by_cases h1:nth l j<1
    · simp(disch:=omega)only[go_sem,K.iI,↓reduceIte,b]
    · by_cases h2:65535<nth l j
      · simp(disch:=omega)only[go_sem,K.iI,↓reduceIte,b]
      · simp(disch:=omega)only[go_sem,K.iI,↓reduceIte,b]
  · simp(disch:=omega)only[go_sem,K.iI,↓reduceIte]
 unfold iG
 rw[sP]
 simp(disch:=omega)only[go_sem,K.gv,↓reduceIte,loop]
 cases hf:(List.range l.length).find? (fun j=> !pM l j)with
 | some j=>simp(disch:=omega)only[go_sem,↓reduceIte,Option.isNone]
 | none=>simp(disch:=omega)only[go_sem,↓reduceIte,Option.isNone]
structure World where
 tags:List Int
 whr:List Wh
instance : Dat World := ⟨⟨[], []⟩⟩
abbrev World.e(x:World):T:= .agg [tL x.tags,.sl (x.whr.map Wh.e)]
structure Bel where
 av:List World
instance : Dat Bel := ⟨⟨[]⟩⟩
abbrev Bel.e(b:Bel):T:= .agg [.sl (b.av.map World.e)]
def World.sz(x:World):Prop:=x.tags.length≤1000000∧x.whr.length≤1000000∧∀w∈x.whr,w.frm.length≤1000000
def Bel.sz(b:Bel):Prop:=b.av.length≤1000000∧∀x∈b.av,x.sz
theorem xc(x:World)(h:x.sz)(a:D):exS aD K.qj ⟨[a,.bp 0 0,.bp 1 0,.bp 3 0,I 0],[.box [.t (tL x.tags),.t (.sl (x.whr.map Wh.e))],.box [.nil,.nil],.arr 1 false 0 ((x.tags.map (T.int .i64)).map .t),.box [.ref 2 0 x.tags.length,.ref 5 0 0],.arr 2 false 0 [],.arr 2 false 0 []]⟩=
 some (.exit 0,⟨[.und,.bp 0 0,.bp 1 0,.bp 3 0,I x.whr.length],[.box [.t (tL x.tags),.t (.sl (x.whr.map Wh.e))],.box [.nil,.nil],.arr 1 false 0 ((x.tags.map (T.int .i64)).map .t),.box [.ref 2 0 x.tags.length,.ref 5 0 x.whr.length],.arr 2 false 0 [],.arr 2 false 0 ((x.whr.map Wh.e).map .t)]⟩):=by
 obtain⟨tags,whr⟩:=x
 obtain⟨h1,h2,h3⟩:=h
 simp only at h1 h2 h3 ⊢
 have tk:whr.take whr.length=whr:=by simp
 refine bk (fun j=>⟨[.und,.bp 0 0,.bp 1 0,.bp 3 0,I j],[.box [.t (tL tags),.t (.sl (whr.map Wh.e))],.box [.nil,.nil],.arr 1 false 0 ((tags.map (T.int .i64)).map .t),.box [.ref 2 0 tags.length,.ref 5 0 (whr.take j).length],.arr 2 false 0 [],.arr 2 false 0 (((whr.take j).map Wh.e).map .t)]⟩) whr.length rfl ?_ ?_ (by simp)
 · intro j hj
   have c:=CM (nth whr j) (by have:=h3 _ (ai hj);omega)
   have lt:(whr.take j).length=j:=by rw[List.length_take];omega
   generalize hx:nth whr j=w at*
   obtain⟨time,frm⟩:=w
   have tk:whr.take (j+1)=whr.take j++[⟨time,frm⟩]:=by rw[oV hj,hx]
   generalize whr.take j=pre at*
   simp(disch:=omega)only[go_sem,K.lQ,↓reduceIte,hx,c,lt,tk,reduceAdd,reduceSub]
 · simp(disch:=omega)only[go_sem,K.lQ,↓reduceIte,tk]
theorem HL(x:World)(h:x.sz):aD 0 N.bG [.t x.e] []=some (.t x.e,[]):=by
 refine ao K.kE rfl ?_
 have loop:=xc x h
 obtain⟨tags,whr⟩:=x
 obtain⟨h1,h2,h3⟩:=h
 simp only at h1 h2 h3 loop ⊢
 simp(disch:=omega)only[go_sem,K.bG,↓reduceIte,loop]
theorem mM(x:World)(h:x.sz):aD 1 N.bG [.t x.e] []=some (.agg [.ref 0 0 x.tags.length,.ref 1 0 x.whr.length],[.arr 1 false 0 ((x.tags.map (T.int .i64)).map .t),.arr 2 false 0 ((x.whr.map Wh.e).map .t)]):=by
 refine ao K.kE rfl ?_
 have loop:=xc x h
 obtain⟨tags,whr⟩:=x
 obtain⟨h1,h2,h3⟩:=h
 simp only at h1 h2 h3 loop ⊢
 simp(disch:=omega)only[go_sem,K.bG,↓reduceIte,loop]
theorem A3(l:List World)(h1:l.length≤1000000)(h2:∀x∈l,x.sz)(a:D):exS aD K.yP ⟨[a,.bp 0 0,.bp 1 0,.bp 2 0,I 0],[.box [.t (.sl (l.map World.e))],.box [.nil],.box [.ref 3 0 0],.arr 2 false 0 []]⟩=
 some (.exit 0,⟨[.und,.bp 0 0,.bp 1 0,.bp 2 0,I l.length],[.box [.t (.sl (l.map World.e))],.box [.nil],.box [.ref 3 0 l.length],.arr 2 false 0 ((l.map World.e).map .t)]⟩):=by
 have tk:l.take l.length=l:=by simp
 refine bk (fun j=>⟨[.und,.bp 0 0,.bp 1 0,.bp 2 0,I j],[.box [.t (.sl (l.map World.e))],.box [.nil],.box [.ref 3 0 (l.take j).length],.arr 2 false 0 (((l.take j).map World.e).map .t)]⟩) l.length rfl ?_ ?_ (by simp)
 · intro j hj
   have c:=HL (nth l j) (h2 _ (ai hj))
   have lt:(l.take j).length=j:=by rw[List.length_take];omega
   generalize hx:nth l j=w at*
   obtain⟨tags,whr⟩:=w
   have tk:l.take (j+1)=l.take j++[⟨tags,whr⟩]:=by rw[oV hj,hx]
   generalize l.take j=pre at*
   simp(disch:=omega)only[go_sem,K.qE,↓reduceIte,hx,c,lt,tk,reduceAdd,reduceSub]
 · simp(disch:=omega)only[go_sem,K.qE,↓reduceIte,tk]
theorem vV(b:Bel)(h:b.sz):aD 0 N.fh [.t b.e] []=some (.t b.e,[]):=by
 refine ao K.qk rfl ?_
 obtain⟨h1,h2⟩:=h
 have loop:=A3 b.av h1 h2
 obtain⟨l⟩:=b
 simp only at h1 h2 loop ⊢
 simp(disch:=omega)only[go_sem,K.fh,↓reduceIte,loop]
theorem JY(b:Bel)(h:b.sz):aD 1 N.fh [.t b.e] []=some (.agg [.ref 0 0 b.av.length],[.arr 2 false 0 ((b.av.map World.e).map .t)]):=by
 refine ao K.qk rfl ?_
 obtain⟨h1,h2⟩:=h
 have loop:=A3 b.av h1 h2
 obtain⟨l⟩:=b
 simp only at h1 h2 loop ⊢
 simp(disch:=omega)only[go_sem,K.fh,↓reduceIte,loop]
def OE(m:aB)(first:List Int)(x:World)(k:Nat):Bool:=decide (0≤cN first (nth x.tags k))&&dX m (nth x.whr k)
def rS(m:aB)(ws:List World)(first:List Int)(i:Nat):Bool:=
 decide ((nth ws i).tags.length=first.length∧(nth ws i).whr.length=first.length)&&iG (nth ws i).tags&&(decide (i=0)||u9 (nth ws (i-1)).tags (nth ws i).tags)&&(List.range (nth ws i).tags.length).all (OE m first (nth ws i))
def qq(m:aB)(b:Bel):Bool:=
 decide (1≤b.av.length∧b.av.length≤24)&&decide (1≤(nth b.av 0).tags.length∧(nth b.av 0).tags.length≤12)&&(List.range b.av.length).all (rS m b.av (nth b.av 0).tags)
theorem CT{m:aB}(h:m.ok)(ws:List World)(first:List Int)(hf:first.length≤1000000)(hs:∀x∈ws,x.sz)(i:Nat)(hi:i<ws.length)(hl:ws.length≤1000000):
 (rS m ws first i=true→gE true [0,1,4,7,8] 2 (exS aD K.cM ⟨[.und,.und,.bp 0 0,.bp 1 0,.und,.t (tL first),I i,.und,.und],[.box (ae m),.box [.t (.sl (ws.map World.e))]]⟩)=some ⟨[.und,.und,.bp 0 0,.bp 1 0,.und,.t (tL first),I (i+1),.und,.und],[.box (ae m),.box [.t (.sl (ws.map World.e))]]⟩)∧
 (rS m ws first i=false→∃q,exS aD K.cM ⟨[.und,.und,.bp 0 0,.bp 1 0,.und,.t (tL first),I i,.und,.und],[.box (ae m),.box [.t (.sl (ws.map World.e))]]⟩=some q∧q.1= .ret∧q.2.vs[4]?=some (B false)):=by
 have np:=h.np
 have sz:=hs _ (ai hi)
 have sz0:0<i→(nth ws (i-1)).sz:=fun h0=>hs _ (ai (by omega))
 unfold rS
 generalize hy:nth ws (i-1)=y at*
 generalize hx:nth ws i=x at*
 obtain⟨tags,whr⟩:=x
 obtain⟨ptags,pwhr⟩:=y
 obtain⟨s1,s2,s3⟩:=sz
 simp only at s1 s2 s3 sz0 ⊢
 have p:=HK tags s1
 have inner:tags.length=first.length→whr.length=first.length→∀a b c:D,
  ((List.range tags.length).all (OE m first ⟨tags,whr⟩)=true∧exS aD K.qF ⟨[a,b,.bp 0 0,.bp 1 0,c,.t (tL first),I i,.bp 2 0,I 0],[.box (ae m),.box [.t (.sl (ws.map World.e))],.box [.t (tL tags),.t (.sl (whr.map Wh.e))]]⟩=
    some (.exit 2,⟨[.und,.und,.bp 0 0,.bp 1 0,.und,.t (tL first),I i,.bp 2 0,I tags.length],[.box (ae m),.box [.t (.sl (ws.map World.e))],.box [.t (tL tags),.t (.sl (whr.map Wh.e))]]⟩))∨
  ((List.range tags.length).all (OE m first ⟨tags,whr⟩)=false∧∃j,exS aD K.qF ⟨[a,b,.bp 0 0,.bp 1 0,c,.t (tL first),I i,.bp 2 0,I 0],[.box (ae m),.box [.t (.sl (ws.map World.e))],.box [.t (tL tags),.t (.sl (whr.map Wh.e))]]⟩=
    some (.ret,⟨[.und,.und,.bp 0 0,.bp 1 0,B false,.t (tL first),I i,.bp 2 0,j],[.box (ae m),.box [.t (.sl (ws.map World.e))],.box [.t (tL tags),.t (.sl (whr.map Wh.e))]]⟩)):=by
  intro l1 l2 a b c
  have:=cH (gc:=true) (dead:=[0,1,4]) (c:=K.jr) (vs:=[a,b,.bp 0 0,.bp 1 0,c,.t (tL first),I i,.bp 2 0,I 0]) (H:=[.box (ae m),.box [.t (.sl (ws.map World.e))],.box [.t (tL tags),.t (.sl (whr.map Wh.e))]])
   (fun j=>⟨[.und,.und,.bp 0 0,.bp 1 0,.und,.t (tL first),I i,.bp 2 0,I j],[.box (ae m),.box [.t (.sl (ws.map World.e))],.box [.t (tL tags),.t (.sl (whr.map Wh.e))]]⟩) tags.length (fun j=> !OE m first ⟨tags,whr⟩ j)
   (fun j=>(.ret,⟨[.und,.und,.bp 0 0,.bp 1 0,B false,.t (tL first),I i,.bp 2 0,I j],[.box (ae m),.box [.t (.sl (ws.map World.e))],.box [.t (tL tags),.t (.sl (whr.map Wh.e))]]⟩))
   (.exit 2,⟨[.und,.und,.bp 0 0,.bp 1 0,.und,.t (tL first),I i,.bp 2 0,I tags.length],[.box (ae m),.box [.t (.sl (ws.map World.e))],.box [.t (tL tags),.t (.sl (whr.map Wh.e))]]⟩) rfl
   (by
    intro j hj hp
    have hp:OE m first ⟨tags,whr⟩ j=true:=by simpa using hp
    have b:=pL first (nth tags j) hf
    have v:=Fv h (nth whr j) (by have:=s3 _ (ai (l:=whr) (j:=j) (by omega));omega)
    simp only[OE,aLr,decide_eq_true_eq]at hp
    rw[hp.2]at v
    have hp:=hp.1
    simp(disch:=omega)only[go_sem,K.jr,↓reduceIte,b,v])
   (by
    intro j hj hp
    have hp:OE m first ⟨tags,whr⟩ j=false:=by simpa using hp
    have b:=pL first (nth tags j) hf
    have v:=Fv h (nth whr j) (by have:=s3 _ (ai (l:=whr) (j:=j) (by omega));omega)
    refine⟨?_,by simp⟩
    by_cases c1:cN first (nth tags j)<0
    · simp(disch:=omega)only[go_sem,K.jr,↓reduceIte,b,v]
    · have:dX m (nth whr j)=false:=by
       simp only[OE,Bool.and_eq_false_iff,decide_eq_false_iff_not]at hp
       rcases hp with hp | hp
       · exact absurd (by omega) hp
       · exact hp
      rw[this]at v
      simp(disch:=omega)only[go_sem,K.jr,↓reduceIte,b,v])
   (by simp(disch:=omega)only[go_sem,K.jr,↓reduceIte]) (by simp)
  cases hf:(List.range tags.length).find? (fun j=> !OE m first ⟨tags,whr⟩ j)with
  | none=>rw[hf]at this;exact .inl ⟨by rw[sP,hf];rfl,this⟩
  | some j=>rw[hf]at this;exact .inr ⟨by rw[sP,hf];rfl,⟨_,this⟩⟩
 by_cases l1:tags.length=first.length
 · by_cases l2:whr.length=first.length
   · cases hp:iG tags with
     | false=>
       rw[hp]at p
       refine⟨fun h=>by simp[hp]at h,fun _=>?_⟩
       simp(disch:=omega)only[go_sem,K.cM,↓reduceIte,hx,p]
       refine⟨_,rfl,?_,?_⟩<;>rfl
     | true=>
       rw[hp]at p
       have inner:=inner l1 l2
       cases i with
       | zero=>
         simp only[JM]at inner
         simp only[l1,l2,and_self,decide_true,Bool.true_and,Bool.true_or]at inner ⊢
         rcases inner .und .und .und with⟨e, -⟩ | ⟨e, -⟩
         · refine⟨fun _=>?_,fun h=>by rw[e]at h;exact absurd h (by simp)⟩
           have inner:=fun a b c=>((inner a b c).resolve_right fun h=>by rw[e]at h;exact absurd h.1 (by simp)).2
           simp(disch:=omega)only[go_sem,K.cM,↓reduceIte,hx,p,inner]
         · refine⟨fun h=>by rw[e]at h;exact absurd h (by simp),fun _=>?_⟩
           have inner:∀a b c,_:=fun a b c=>((inner a b c).resolve_left fun h=>by rw[e]at h;exact absurd h.1 (by simp)).2
           obtain⟨j,inner⟩:=inner .und .und .und
           simp(disch:=omega)only[go_sem,K.cM,↓reduceIte,hx,p,inner]
           refine⟨_,rfl,?_,?_⟩<;>rfl
       | succ i=>
         simp only[MZ,M0]at inner
         rw[Nat.add_sub_cancel]at hy
         have ls:=JX ptags tags (sz0 (by omega)).1 s1
         cases hl:u9 ptags tags with
         | false=>
           rw[hl]at ls
           refine⟨fun h=>by simp at h,fun _=>?_⟩
           simp(disch:=omega)only[go_sem,K.cM,↓reduceIte,hx,p,hy,ls]
           refine⟨_,rfl,?_,?_⟩<;>rfl
         | true=>
           rw[hl]at ls
           simp only[l1,l2,and_self,decide_true,Bool.true_and,Bool.or_true]at inner ⊢
           rcases inner .und .und .und with⟨e, -⟩ | ⟨e, -⟩
           · refine⟨fun _=>?_,fun h=>by rw[e]at h;exact absurd h (by simp)⟩
             have inner:=fun a b c=>((inner a b c).resolve_right fun h=>by rw[e]at h;exact absurd h.1 (by simp)).2
             simp(disch:=omega)only[go_sem,K.cM,↓reduceIte,hx,hy,ls,p,inner]
           · refine⟨fun h=>by rw[e]at h;exact absurd h (by simp),fun _=>?_⟩
             have inner:∀a b c,_:=fun a b c=>((inner a b c).resolve_left fun h=>by rw[e]at h;exact absurd h.1 (by simp)).2
             obtain⟨j,inner⟩:=inner .und .und .und
             simp(disch:=omega)only[go_sem,K.cM,↓reduceIte,hx,hy,ls,p,inner]
             refine⟨_,rfl,?_,?_⟩<;>rfl
   · refine⟨fun h=>by simp[l2]at h,fun _=>?_⟩
     simp(disch:=omega)only[go_sem,K.cM,↓reduceIte,hx,p]
     refine⟨_,rfl,?_,?_⟩<;>rfl
 · refine⟨fun h=>by simp[l1]at h,fun _=>?_⟩
   simp(disch:=omega)only[go_sem,K.cM,↓reduceIte,hx,p]
   refine⟨_,rfl,?_,?_⟩<;>rfl
theorem FB{m:aB}(h:m.ok)(b:Bel)(hs:b.sz):aD 0 N.dy [.t m.e,.t b.e] []=some (B (qq m b),[]):=by
 refine ao K.sE rfl ?_
 obtain⟨h1,h2⟩:=hs
 have ck:=nO h
 obtain⟨ws⟩:=b
 unfold qq
 simp only at h1 h2 ⊢
 by_cases c1:ws.length<1
 · simp(disch:=omega)only[go_sem,K.dy,↓reduceIte,show ¬(1≤ws.length∧ws.length≤24)by omega,decide_false,Bool.false_and]
 · by_cases c2:24<ws.length
   · simp(disch:=omega)only[go_sem,K.dy,↓reduceIte,show ¬(1≤ws.length∧ws.length≤24)by omega,decide_false,Bool.false_and]
   · have c3:1≤ws.length∧ws.length≤24:=by omega
     have sz:=h2 _ (ai (l:=ws) (j:=0) (by omega))
     have i0:(ws.map World.e)[0]?=some (nth ws 0).e:=b8 _ (by omega)
     generalize hx:nth ws 0=x at*
     obtain⟨first,whr⟩:=x
     have hf:=sz.1
     simp only at hf ⊢
     by_cases c4:first.length<1
     · simp(disch:=omega)only[go_sem,K.dy,↓reduceIte,ck,hx,c3,and_self,show ¬(1≤first.length∧first.length≤12)by omega,decide_true,decide_false,Bool.true_and,Bool.false_and]
     · by_cases c5:12<first.length
       · simp(disch:=omega)only[go_sem,K.dy,↓reduceIte,ck,hx,c3,and_self,show ¬(1≤first.length∧first.length≤12)by omega,decide_true,decide_false,Bool.true_and,Bool.false_and]
       · have loop:=fun a b c d e=>nZ (gc:=true) (dead:=[0,1,4,7,8]) (c:=K.cM) (vs:=[a,b,.bp 0 0,.bp 1 0,c,.t (tL first),I 0,d,e]) (H:=[.box (ae m),.box [.t (.sl (ws.map World.e))]])
          (fun j=>⟨[.und,.und,.bp 0 0,.bp 1 0,.und,.t (tL first),I j,.und,.und],[.box (ae m),.box [.t (.sl (ws.map World.e))]]⟩) ws.length (fun j=> !rS m ws first j) (fun _ q=>q.1= .ret∧q.2.vs[4]?=some (B false))
          (.exit 0,⟨[.und,.und,.bp 0 0,.bp 1 0,.und,.t (tL first),I ws.length,.und,.und],[.box (ae m),.box [.t (.sl (ws.map World.e))]]⟩) rfl
          (fun j hj hp=>(CT h ws first hf h2 j hj h1).1 (by simpa using hp))
          (fun j hj hp=>by
           obtain⟨q,q1,q2,q3⟩:=(CT h ws first hf h2 j hj h1).2 (by simpa using hp)
           exact⟨q,q1,by rw[q2];simp,q2,q3⟩)
          (by simp(disch:=omega)only[go_sem,K.cM,↓reduceIte]) (by simp)
         rw[sP]
         rcases loop (.t m.e) (.t (Bel.e ⟨ws⟩)) (B false) .und .und with⟨e1,e2⟩ | ⟨j,⟨x,vs,H⟩,e1,e2,e3,e4⟩
         · have e2:exS aD K.qG ⟨[.t m.e,.t (Bel.e ⟨ws⟩),.bp 0 0,.bp 1 0,B false,.t (tL first),I 0,.und,.und],[.box (ae m),.box [.t (.sl (ws.map World.e))]]⟩=_:=e2
           simp(disch:=omega)only[go_sem,K.dy,↓reduceIte,ck,hx,c3,and_self,show(1≤first.length∧first.length≤12)by omega,decide_true,decide_false,Bool.true_and,e1,e2,Option.isNone]
         · have e2:exS aD K.qG ⟨[.t m.e,.t (Bel.e ⟨ws⟩),.bp 0 0,.bp 1 0,B false,.t (tL first),I 0,.und,.und],[.box (ae m),.box [.t (.sl (ws.map World.e))]]⟩=_:=e2
           simp only at e3 e4
           subst e3
           simp(disch:=omega)only[go_sem,K.dy,↓reduceIte,ck,hx,c3,and_self,show(1≤first.length∧first.length≤12)by omega,decide_true,decide_false,Bool.true_and,e1,e2,Option.isNone]
           simp(disch:=omega)only[go_sem,ko,e4,List.take_zero]
end Go.Ev
namespace Go.Ev.K
open Go.Ev
def sW:C:= (.seq (.ite [m v5,f 0 v1,g l0,m v4,a 2 l1 l0,f 1 l0,g l0,u (.ln l0),u (.bin .lss l7 l0)] [] 0 .skip (.exit 2)) (.seq (.blk 3 (.reg [m v3,f 0 v1,g l0,m v4,a 2 l1 l0,f 1 l0,g l0,m v5,a 2 l1 l0,f 0 l0,g l0,u (.mx [.l 10,.l 0]),x 3 l0] [])) (.reg [m v5,u (.bin .add l0 (.i 1)),x 5 l0] [])))
def A4:C:= .loop true [0,2] K.sW
def sX:C:= (.seq (.ite [m v4,f 0 v1,g l0,u (.ln l0),u (.bin .lss l3 l0)] [] 0 .skip (.exit 0)) (.seq (.blk 1 (q [x 5 (.i 0)] [] (.blk 2 K.A4))) (.reg [m v4,u (.bin .add l0 (.i 1)),x 4 l0] [])))
def A5:C:= .loop true [0,2,5] K.sX
def ly:Fn:= { aP:=1,vars:=[0,1,2,3,4,5],body:=(q [w 1 (.bx v0 1),x 2 (.i 0)] [] (q [x 3 (.i 0)] [] (.seq (q [x 4 (.i 0)] [] (.blk 0 K.A5)) (q [m v3,x 2 l0] [] .ret)))),res:=[(2,none)]}
end Go.Ev.K
namespace Go.Ev
class gu [Lib]:Prop where
 xT:Lib.fs N.ly=some K.ly
namespace K
variable [Lib] [gu]
theorem xT:Lib.fs N.ly=some K.ly:=gu.xT
end K
end Go.Ev
namespace Go.Ev.K
open Go.Ev
def gN:C:= (.its [u (.bin .lss v8 v7)] [] 0 .skip (.exit 0) (.seq (.blk 1 (q [m v8,a 1 v6 v8,g l0,x 4 l2,x 5 l1] [] (.ite [m v5,m v1,u (.bin .lss l1 l0),m l0,e 0 false v5,e 1 false v2,y 2 false (.bin .gtr l1 l0),u (.pk l3 (.b true) l0),m l0,e 0 false v4,y 1 false (.bin .gtr l0 (.i 0)),e 2 false l0,e 0 true v5,e 1 true v0,e 2 true v4,y 3 true (.bin .sub l0 (.i 1)),y 4 true (.ia l2 l0 1),i 5 true l0,y 6 true (.bin .leq l5 l0),y 10 false (.pk l7 l0 (.b false)),u (.pk l11 (.b true) l0)] [] 0 (q [x 3 (.b false)] [] .ret) .skip))) (.reg [u (.bin .add v8 (.i 1)),x 8 l0] [])))
def ve:C:= .loop true [3,4,5] K.gN
def dA:Fn:= { aP:=3,vars:=[0,1,2,6,7,8,9,10,11],body:=(q [x 3 (.b false)] [] (.seq (q [x 6 v0,w 7 (.ln l0),x 8 (.i 0)] [] (.blk 0 K.ve)) (q [x 3 (.b true)] [] .ret))),res:=[(3,none)]}
def ie:Fn:= { aP:=1,vars:=[0,1,2],body:=(q [w 1 (.bx v0 2),w 2 (.al [.nil,.nil] [])] [] (q [f 0 v1,g l0,u (.app (.c (.nil)) l0 true 2),f 1 v1,g l0,u (.app (.c (.nil)) l0 true 10),u (.bd [.nil,.nil] [(0,1,.l 3),(1,1,.l 0)]),u (.st v2 l0 2 [])] [(4,0)] .ret)),res:=[(2,some (2,true))]}
def nJ:C:= (.seq (.ite [m v4,f 0 v1,g l0,u (.ln l0),u (.bin .lss l3 l0)] [] 0 .skip (.exit 0)) (.seq (.blk 1 (.reg [f 0 v3,g l0,f 0 v1,g l0,m v4,a 2 l1 l0,h 2 l0,u (.ca N.bG 1 [] [.l 0]),u (.bsr [.l 0] 2),u (.app l7 l0 false 2),f 0 v3,u (.st l0 l1 1 [])] [(1,8),(1,9)])) (.reg [m v4,u (.bin .add l0 (.i 1)),x 4 l0] [])))
def uc:C:= .loop false [0] K.nJ
def gg:Fn:= { aP:=1,vars:=[0,1,2,3,4],body:=(q [w 1 (.bx v0 1),w 2 (.al [.nil] [])] [] (q [w 3 (.al [.nil] [(0,2)])] [] (.seq (q [x 4 (.i 0)] [] (.blk 0 K.uc)) (q [h 1 v3,u (.st v2 l0 1 [])] [] .ret)))),res:=[(2,some (1,true))]}
end Go.Ev.K
namespace Go.Ev
class gk [Lib]:Prop where
 qS:Lib.fs N.dA=some K.dA
 qs:Lib.fs N.ie=some K.ie
 pN:Lib.fs N.gg=some K.gg
namespace K
variable [Lib] [gk]
theorem qS:Lib.fs N.dA=some K.dA:=gk.qS
theorem qs:Lib.fs N.ie=some K.ie:=gk.qs
theorem pN:Lib.fs N.gg=some K.gg:=gk.pN
end K
end Go.Ev
namespace Go.Ev
open Go
variable [Lib] [cu] [bM] [gu] [gk]
def Qs(l:List Int)(lo hi:Int)(j:Nat):Bool:= !decide (lo≤nth l j∧nth l j≤hi∧(0<j→nth l (j-1)<nth l j))
def WA(l:List Int)(lo hi:Int):Bool:= !((List.range l.length).any (Qs l lo hi))
theorem mN(l:List Int)(lo hi:Int)(hl:l.length≤4294967296):aD 0 N.dA [.t (tL l),I lo,I hi] []=some (B (WA l lo hi),[]):=by
 refine ao K.qS rfl ?_
 have loop:∀a b c:D,exS aD K.ve ⟨[.t (tL l),I lo,I hi,a,b,c,.t (tL l),I l.length,I 0],[]⟩=
  some (if(List.range l.length).any (Qs l lo hi)=true
   then(.ret,⟨[.t (tL l),I lo,I hi,B false,I (HG l.length (Qs l lo hi)),I (nth l (HG l.length (Qs l lo hi))),.t (tL l),I l.length,I (HG l.length (Qs l lo hi))],[]⟩)
   else(.exit 0,⟨[.t (tL l),I lo,I hi,.und,.und,.und,.t (tL l),I l.length,I l.length],[]⟩)):=by
  intro a b c
  refine P5 (fun j=>⟨[.t (tL l),I lo,I hi,.und,.und,.und,.t (tL l),I l.length,I j],[]⟩) l.length (Qs l lo hi) (fun j=>(.ret,⟨[.t (tL l),I lo,I hi,B false,I j,I (nth l j),.t (tL l),I l.length,I j],[]⟩)) _ rfl ?_ ?_ ?_ (by simp)
  · intro j hj hp
    simp only[Qs,Bool.not_eq_false',decide_eq_true_eq]at hp
    obtain⟨h1,h2,h3⟩:=hp
    cases j with
    | zero=>simp(disch:=omega)only[go_sem,K.gN,↓reduceIte]
    | succ j=>
      have h3:=h3 (by omega)
      rw[Nat.add_sub_cancel]at h3
      simp(disch:=omega)only[go_sem,K.gN,↓reduceIte]
  · intro j hj hp
    simp only[Qs,Bool.not_eq_true',decide_eq_false_iff_not]at hp
    refine⟨?_,by simp⟩
    by_cases h1:lo≤nth l j
    · by_cases h2:nth l j≤hi
      · cases j with
        | zero=>exact absurd ⟨h1,h2,fun h=>absurd h (by omega)⟩ hp
        | succ j=>
          have h3:¬nth l j<nth l (j+1):=fun h=>hp ⟨h1,h2,fun _=>by simpa using h⟩
          simp(disch:=omega)only[go_sem,K.gN,↓reduceIte]
      · simp(disch:=omega)only[go_sem,K.gN,↓reduceIte]
    · simp(disch:=omega)only[go_sem,K.gN,↓reduceIte]
  · simp(disch:=omega)only[go_sem,K.gN,↓reduceIte]
 unfold WA
 simp(disch:=omega)only[go_sem,K.dA,↓reduceIte,loop]
 cases hf:(List.range l.length).any (Qs l lo hi)with
 | true=>simp(disch:=omega)only[go_sem,↓reduceIte]
 | false=>simp(disch:=omega)only[go_sem,↓reduceIte,aLt]
theorem xU(l:List Int)(n:Int):WA l 0 (n-1)=lr l n:=by
 unfold WA lr
 rw[P6]
 refine congrArg (!·) (congrArg _ (funext fun j=>?_))
 unfold Qs
 refine congrArg (!·) (decide_eq_decide.2 ⟨fun h=>⟨h.1,by omega,h.2.2⟩,fun h=>⟨h.1,by omega,h.2.2⟩⟩)
structure ahU where
 st:Int
 fi:Int
 se:Int
 ti:Int
abbrev ahU.e(s:ahU):T:= .agg [tI s.st,tI s.fi,tI s.se,tI s.ti]
structure T7 where
 area:List Int
 hold:Int
 mis:Int
abbrev T7.e(x:T7):T:= .agg [tL x.area,tI x.hold,tI x.mis]
structure Keys where
 roads:List Int
 keys:List Int
 out:Bool
abbrev Keys.e(k:Keys):T:= .agg [tL k.roads,tL k.keys,.bool k.out]
end Go.Ev
namespace Go.Ev
open Go
variable [Lib] [cu] [bM] [gu] [gk] [fK] [fI] [iv] [gj]
theorem Nd(x:Int):aD 0 N.cy [I x] []=some (B (!decide (plT x)),[]):=by
 refine ao K.nI rfl ?_
 have i:=Bq x 0 2147483648
 unfold plT inT
 by_cases c:x=1099511627776
 · subst c
   simp(disch:=omega)only[go_sem,K.cy,↓reduceIte,reduceAdd,reduceSub]
 · by_cases c2:0≤x∧x≤2147483648
   · simp only[c2,and_self,decide_true]at i
     simp(disch:=omega)only[go_sem,K.cy,↓reduceIte,i,c,c2,false_or,and_self,decide_true,reduceAdd,reduceSub]
   · simp only[c2,decide_false]at i
     simp(disch:=omega)only[go_sem,K.cy,↓reduceIte,i,c,c2,false_or,decide_false,reduceAdd,reduceSub]
theorem HM(m:aB)(hm:m.aa.length≤1000000)(w:Wh)(hl:w.frm.length≤1000000):aD 0 N.dK [.t m.e,.t w.e] []=some (B (lu w m.aa.length),[]):=by
 refine ao K.pK rfl ?_
 have i:=Bq w.time 0 2147483648
 have cf:aD 0 N.aK [.t (tL w.frm),.fn N.cy []] []=some (B (w.frm.any fun x=> !decide (plT x)),[]):=uU w.frm (by omega) N.cy [] (fun x=> !decide (plT x)) (fun x _=>Nd x)
 have e:lu w m.aa.length=(decide ((w.frm.length:Int)=m.aa.length∧inT w.time)&& !(w.frm.any fun x=> !decide (plT x))):=by
  unfold lu
  rw[P6,YX w.frm (fun x=> !decide (plT x))]
 rw[e]
 unfold inT
 generalize (w.frm.any fun x=> !decide (plT x))=r at*
 obtain⟨aa,roads⟩:=m
 obtain⟨time,frm⟩:=w
 simp only at*
 clear e
 by_cases c1:(frm.length:Int)=aa.length
 · by_cases c2:0≤time∧time≤2147483648
   · simp only[c2,and_self,decide_true]at i
     cases r<;>simp(disch:=omega)only[go_sem,K.dK,↓reduceIte,i,cf,c1,c2,and_self,decide_true,Bool.true_and,reduceAdd,reduceSub]
   · simp only[c2,decide_false]at i
     simp(disch:=omega)only[go_sem,K.dK,↓reduceIte,i,cf,c1,c2,and_false,decide_false,Bool.false_and,reduceAdd,reduceSub]
 · simp(disch:=omega)only[go_sem,K.dK,↓reduceIte,c1,false_and,decide_false,Bool.false_and,reduceAdd,reduceSub]
theorem Qt{m:aB}(h:m.ok)(w:Wh)(hl:w.frm.length≤1000000):aD 0 N.gy [.t m.e,.t w.e] []=some (B (dX m w),[]):=by
 refine ao K.qQ rfl ?_
 have np:=h.np
 have v:=iQ h
 have s:=HM m (by omega) w hl
 unfold dX
 cases hp:lu w m.aa.length with
 | false=>
   rw[hp]at s
   obtain⟨aa,roads⟩:=m
   obtain⟨time,frm⟩:=w
   simp only at*
   simp(disch:=omega)only[go_sem,K.gy,↓reduceIte,v,s,Bool.false_and,reduceAdd,reduceSub]
 | true=>
   rw[hp]at s
   obtain⟨p1,p2,p3⟩:=lU hp
   have hb:bnd w.frm:=fun x hx=>nE (p3 x hx)
   have lo:=(EA h w.time (by unfold inT at p2;omega) (by unfold inT at p2;omega) w.frm (by omega) hb).1
   have ll:=mb h w.time p2 none (by simp) (l:=w.frm) (by omega) hb
   have eq:=LF (dN m w.time none w.frm) w.frm (by omega) (by omega)
   generalize dN m w.time none w.frm=c at*
   obtain⟨aa,roads⟩:=m
   obtain⟨time,frm⟩:=w
   simp only at*
   clear hb p3
   simp(disch:=omega)only[go_sem,K.gy,↓reduceIte,v,s,lo,eq,Bool.true_and,reduceAdd,reduceSub]
def dr(m:aB)(w:Wh)(t:Int):Wh×Int:=if lu w m.aa.length=false then(w,6)else if t<w.time∨2147483648<t then(w,8)else(⟨t,dN m t none w.frm⟩,0)
theorem Qu{m:aB}(h:m.ok)(w:Wh)(t:Int)(hl:w.frm.length≤1000000):aD 0 N.eH [.t m.e,.t w.e,I t] []=some (.tup [.t (dr m w t).1.e,I (dr m w t).2],[]):=by
 refine ao K.qR rfl ?_
 have np:=h.np
 have v:=iQ h
 have s:=HM m (by omega) w hl
 unfold dr
 cases hp:lu w m.aa.length with
 | false=>
   rw[hp]at s
   rw[if_pos rfl]
   obtain⟨aa,roads⟩:=m
   obtain⟨time,frm⟩:=w
   simp only at*
   simp(disch:=omega)only[go_sem,K.eH,↓reduceIte,v,s,reduceAdd,reduceSub]
 | true=>
   rw[hp]at s
   obtain⟨p1,p2,p3⟩:=lU hp
   have hb:bnd w.frm:=fun x hx=>nE (p3 x hx)
   unfold inT at p2
   by_cases c1:t<w.time
   · rw[if_neg (by simp),if_pos (.inl c1)]
     obtain⟨aa,roads⟩:=m
     obtain⟨time,frm⟩:=w
     simp only at*
     simp(disch:=omega)only[go_sem,K.eH,↓reduceIte,v,s,c1,reduceAdd,reduceSub]
   · by_cases c2:2147483648<t
     · rw[if_neg (by simp),if_pos (.inr c2)]
       obtain⟨aa,roads⟩:=m
       obtain⟨time,frm⟩:=w
       simp only at*
       simp(disch:=omega)only[go_sem,K.eH,↓reduceIte,v,s,c1,c2,reduceAdd,reduceSub]
     · have lo:=(EA h t (by omega) (by omega) w.frm (by omega) hb).1
       rw[if_neg (by simp),if_neg (by omega)]
       generalize dN m t none w.frm=c at*
       obtain⟨aa,roads⟩:=m
       obtain⟨time,frm⟩:=w
       simp only at*
       clear hb p3
       simp(disch:=omega)only[go_sem,K.eH,↓reduceIte,v,s,c1,c2,lo,reduceAdd,reduceSub]
theorem Qv{m:aB}(h:m.ok)(w:Wh)(t:Int)(hl:w.frm.length≤1000000):aD 0 N.fQ [.t m.e,.t w.e,I t] []=some (.tup [.t (dr m w t).1.e,I (dr m w t).2],[]):=by
 refine ao K.sV rfl ?_
 have np:=h.np
 have v:=nO h
 have s:=BS w m.aa.length (by omega)
 have cp:=CM w (by omega)
 unfold dr
 cases hp:lu w m.aa.length with
 | false=>
   rw[hp]at s
   rw[if_pos rfl]
   obtain⟨aa,roads⟩:=m
   obtain⟨time,frm⟩:=w
   simp only at*
   simp(disch:=omega)only[go_sem,K.fQ,↓reduceIte,v,s,cp,reduceAdd,reduceSub]
 | true=>
   rw[hp]at s
   obtain⟨p1,p2,p3⟩:=lU hp
   have hb:bnd w.frm:=fun x hx=>nE (p3 x hx)
   unfold inT at p2
   by_cases c1:t<w.time
   · rw[if_neg (by simp),if_pos (.inl c1)]
     obtain⟨aa,roads⟩:=m
     obtain⟨time,frm⟩:=w
     simp only at*
     simp(disch:=omega)only[go_sem,K.fQ,↓reduceIte,v,s,c1,cp,reduceAdd,reduceSub]
   · by_cases c2:2147483648<t
     · rw[if_neg (by simp),if_pos (.inr c2)]
       obtain⟨aa,roads⟩:=m
       obtain⟨time,frm⟩:=w
       simp only at*
       simp(disch:=omega)only[go_sem,K.fQ,↓reduceIte,v,s,c1,c2,cp,reduceAdd,reduceSub]
     · have lo:=yZ h t (by unfold inT;omega) w.frm (by omega) hb
       rw[if_neg (by simp),if_neg (by omega)]
       generalize dN m t none w.frm=c at*
       obtain⟨aa,roads⟩:=m
       obtain⟨time,frm⟩:=w
       simp only at*
       clear hb p3
       simp(disch:=omega)only[go_sem,K.fQ,↓reduceIte,v,s,c1,c2,lo,reduceAdd,reduceSub]
end Go.Ev
namespace Go.Ev.N
def SM:Nat:=215
def SN:Nat:=216
def SO:Nat:=217
def ZA:Nat:=218
def ZB:Nat:=219
def ZC:Nat:=220
def acF:Nat:=221
def acG:Nat:=222
def acH:Nat:=223
def afn:Nat:=224
def ZD:Nat:=225
def ZE:Nat:=226
def ZF:Nat:=227
def afo:Nat:=228
def ZG:Nat:=229
def ZH:Nat:=230
def acI:Nat:=231
def WB:Nat:=232
def acJ:Nat:=233
def WC:Nat:=234
def WD:Nat:=235
def WE:Nat:=236
def acK:Nat:=237
def WG:Nat:=238
def afp:Nat:=239
def afq:Nat:=240
def bP:Nat:=241
def acL:Nat:=242
def ZI:Nat:=243
def SP:Nat:=244
end Go.Ev.N
namespace Go.Ev.N
def LG:Nat:=245
def JZ:Nat:=246
def J0:Nat:=247
def ZJ:Nat:=248
def T8:Nat:=249
def ZK:Nat:=250
def LH:Nat:=251
def SQ:Nat:=252
def Qw:Nat:=253
def ZL:Nat:=254
def WH:Nat:=255
def acM:Nat:=256
def gO:Nat:=257
def Nf:Nat:=258
def sY:Nat:=259
def cO:Nat:=260
def bz:Nat:=261
def gY:Nat:=262
def bc:Nat:=263
def au:Nat:=264
def ed:Nat:=265
def um:Nat:=266
def aT:Nat:=267
def dg:Nat:=268
def az:Nat:=269
def cmp_isNaN_int:Nat:=270
end Go.Ev.N
namespace Go.Ev.N
def Ng:Nat:=271
def Qx:Nat:=272
def Qy:Nat:=273
def OF:Nat:=274
def SR:Nat:=275
def Qz:Nat:=276
def ZM:Nat:=277
def ZN:Nat:=278
def acN:Nat:=279
def acO:Nat:=280
def SS:Nat:=281
def afr:Nat:=282
def WI:Nat:=283
def ZO:Nat:=284
def ZP:Nat:=285
def acP:Nat:=286
def zJ:Nat:=287
def acQ:Nat:=288
def lV:Nat:=289
def ZQ:Nat:=290
def ZR:Nat:=291
def ZS:Nat:=292
def SU:Nat:=293
def fS:Nat:=294
def fe:Nat:=295
def WJ:Nat:=296
def za:Nat:=297
def zb:Nat:=298
def T9:Nat:=299
def EB:Nat:=300
def uf:Nat:=301
def xV:Nat:=302
def A6:Nat:=303
def wE:Nat:=304
def zK:Nat:=305
def A7:Nat:=306
def zc:Nat:=307
def eR:Nat:=308
end Go.Ev.N
namespace Go.Ev.N
def WK:Nat:=309
def QA:Nat:=310
def SV:Nat:=311
def SW:Nat:=312
def QB:Nat:=313
def ZT:Nat:=314
def akb:Nat:=315
def afs:Nat:=316
def ZU:Nat:=317
def ZV:Nat:=318
def ZW:Nat:=319
def ZX:Nat:=320
def afu:Nat:=321
def afv:Nat:=322
def ZY:Nat:=323
def Ua:Nat:=324
def afw:Nat:=325
def ahV:Nat:=326
def dG:Nat:=327
def WL:Nat:=328
def Ub:Nat:=329
def aM:Nat:=330
def aO:Nat:=331
def Uc:Nat:=332
def QC:Nat:=333
end Go.Ev.N
namespace Go.Ev.K
open Go.Ev
end Go.Ev.K
namespace Go.Ev
class jA [Lib]:Prop where
namespace K
variable [Lib] [jA]
end K
end Go.Ev
namespace Go.Ev.K
open Go.Ev
def mO:C:= (.seq (.ite [m v5,f 0 v2,g l0,u (.ln l0),u (.bin .lss l3 l0)] [] 0 .skip (.exit 0)) (.seq (.blk 1 (.ite [f 0 v2,g l0,m v5,a 2 l1 l0,h 2 l0,f 0 v3,g l0,m v5,a 2 l1 l0,h 2 l0,u (.eqk (.sc [true,false]) true l5 l0)] [] 0 (q [x 4 (.b false)] [] .ret) .skip)) (.reg [m v5,u (.bin .add l0 (.i 1)),x 5 l0] [])))
def rT:C:= .loop true [0,1,4,6] K.mO
def mP:C:= (.seq (.ite [m v6,f 1 v2,g l0,u (.ln l0),u (.bin .lss l3 l0)] [] 0 .skip (.exit 2)) (.seq (.blk 3 (.ite [f 1 v2,g l0,m v6,a 10 l1 l0,h 10 l0,f 1 v3,g l0,m v6,a 10 l1 l0,h 10 l0,u (.eqk (.sc [true,true,true,true,false,false,true,true,true,true]) true l5 l0)] [] 0 (q [x 4 (.b false)] [] .ret) .skip)) (.reg [m v6,u (.bin .add l0 (.i 1)),x 6 l0] [])))
def rU:C:= .loop true [0,1,4,5] K.mP
def dG:Fn:= { aP:=2,vars:=[0,1,2,3,4,5,6],body:=(q [w 2 (.bx v0 2),w 3 (.bx v1 2),x 4 (.b false)] [] (.seq (.ite [f 0 v2,g l0,u (.ln l0),f 0 v3,g l0,u (.ln l0),u (.bin .neq l3 l0),m l0,y 0 false (.fa v2 1),i 1 false l0,y 2 false (.ln l0),y 3 false (.fa v3 1),i 4 false l0,y 5 false (.ln l0),y 6 false (.bin .neq l3 l0),u (.pk l7 (.b true) l0)] [] 0 (q [x 4 (.b false)] [] .ret) .skip) (.seq (q [x 5 (.i 0)] [] (.blk 0 K.rT)) (.seq (q [x 6 (.i 0)] [] (.blk 2 K.rU)) (q [x 4 (.b true)] [] .ret))))),res:=[(4,none)]}
def aM:Fn:= { aP:=1,vars:=[0,2],body:=(q [w 1 (.mv (.c (.nil)))] [] (.itk [m v0,u (.eqk (.sl) false l0 (.c (.nil)))] [] 0 (q [w 1 (.nw 2)] [] .ret) .skip (q [u (.bsr [] 2),m v0,u (.app l1 l0 false 2),x 1 l0] [] .ret))),res:=[(1,none)]}
def aO:Fn:= { aP:=1,vars:=[0,2],body:=(q [w 1 (.mv (.c (.nil)))] [] (.itk [m v0,u (.eqk (.sl) false l0 (.c (.nil)))] [] 0 (q [w 1 (.nw 10)] [] .ret) .skip (q [u (.bsr [] 10),m v0,u (.app l1 l0 false 10),x 1 l0] [] .ret))),res:=[(1,none)]}
end Go.Ev.K
namespace Go.Ev
class iY [Lib]:Prop where
 oB:Lib.fs N.dG=some K.dG
 eJ:Lib.fs N.aM=some K.aM
 fC:Lib.fs N.aO=some K.aO
namespace K
variable [Lib] [iY]
theorem oB:Lib.fs N.dG=some K.dG:=iY.oB
theorem eJ:Lib.fs N.aM=some K.aM:=iY.eJ
theorem fC:Lib.fs N.aO=some K.aO:=iY.fC
end K
end Go.Ev
namespace Go.Ev
open Go
variable [Lib] [cu] [bM] [gu] [gk] [fK] [fI] [iv] [gj] [jA] [iY]
end Go.Ev
namespace Go.Ev
open Go
variable [Lib] [cu] [bM]
@[go_sem] theorem ZZ (l : List Place) : xE 2 (l.map Place.e) = true := by cases l <;> rfl
@[go_sem] theorem acR (l : List Road) : xE 10 (l.map Road.e) = true := by cases l <;> rfl
@[go_sem] theorem acS (H : aq) (d : aG) : Tw H 0 1 false (some d.obj) = some (.t (tL d.L), H) := by simp only [aG.obj, go_sem]
def aG.gz(d:aG):Nat→List Place×aG
 | 0=>([],d)
 | k+1=>if k=0 then((d.gz k).1++[⟨-10*((d.gz k).2.next 4).1,true⟩],((d.gz k).2.next 4).2)
   else((d.gz k).1++[⟨-10*((d.gz k).2.next 4).1,(((d.gz k).2.next 4).2.one 6).1⟩],(((d.gz k).2.next 4).2.one 6).2)
def aG.Nh(d:aG)(i:Int):Road×aG:=
 (⟨i-1-(d.next (min i 2)).1,i,1+((d.next (min i 2)).2.of [11,59,119,4]).1,1+(((d.next (min i 2)).2.of [11,59,119,4]).2.of [9,3,19]).1,true,false,1,1,0,0⟩,
   (((d.next (min i 2)).2.of [11,59,119,4]).2.of [9,3,19]).2)
def aG.mQ(d:aG):Nat→List Road×aG
 | 0=>([],d)
 | k+1=>((d.mQ k).1++[((d.mQ k).2.Nh (k+1)).1],((d.mQ k).2.Nh (k+1)).2)
def aG.s6(d:aG)(n:Int):Road×aG:=
 let a:=d.next n
 let b:=a.2.next n
 let l:=b.2.of [11,59,199]
 let r:=l.2.of [9,3]
 let w:=r.2.next 5
 let c:=w.2.one 6
 (⟨a.1,b.1,1+l.1,1+r.1,decide (0<w.1),c.1,1,1,0,0⟩,c.2)
def aG.more(n:Int)(l:List Road)(d:aG):Nat→List Road×aG
 | 0=>(l,d)
 | k+1=>if l.length<10 then aG.more n (if(d.s6 n).1.frm=(d.s6 n).1.to then l else l++[(d.s6 n).1]) (d.s6 n).2 k else(l,d)
def aG.xW(d:aG):Nat:=if d.L.length=0 then 4 else(2+(d.next 6).1).toNat
def aG.QD(d:aG):List Place×aG:=(d.next 6).2.gz d.xW
def aG.FC(d:aG):List Road×aG:=d.QD.2.mQ (d.xW-1)
def aG.Ud(d:aG):List Road×aG:=aG.more d.xW d.FC.1 (d.FC.2.next 4).2 (d.FC.2.next 4).1.toNat
def aG.WM(d:aG):aB×aG:=(⟨d.QD.1,d.Ud.1⟩,d.Ud.2)
theorem aG.mR{d:aG}(h:d.dQ):∀n,(d.gz n).2.dQ
 | 0=>h
 | n+1=>by
   unfold aG.gz
   split
   · exact aG.aZ (aG.mR h n) 4
   · exact aG.CH (aG.aZ (aG.mR h n) 4) 6
theorem aG.s7(d:aG):∀n,(d.gz n).1.length=n
 | 0=>rfl
 | n+1=>by
   unfold aG.gz
   split<;>simp[d.s7 n]
theorem aG.J4{d:aG}(h:d.dQ)(i:Int):(d.Nh i).2.dQ:=aG.ql (aG.ql (aG.aZ h _) _) _
theorem aG.qt{d:aG}(h:d.dQ):∀n,(d.mQ n).2.dQ
 | 0=>h
 | n+1=>aG.J4 (aG.qt h n) _
theorem aG.vW(d:aG):∀n,(d.mQ n).1.length=n
 | 0=>rfl
 | n+1=>by simp[aG.mQ,d.vW n]
theorem aG.CU{d:aG}(h:d.dQ)(n:Int):(d.s6 n).2.dQ:=by
 unfold aG.s6;simp only
 exact aG.CH (aG.aZ (aG.ql (aG.ql (aG.aZ (aG.aZ h _) _) _) _) _) _
theorem aG.EC(n:Int):∀(k:Nat) (l:List Road) {d:aG},d.dQ→(aG.more n l d k).2.dQ
 | 0,l,d,h=>h
 | k+1,l,d,h=>by
   unfold aG.more
   split
   · exact aG.EC n k _ (aG.CU h n)
   · exact h
theorem aG.Ni{d:aG}(h:d.dQ):d.WM.2.dQ:=
 aG.EC _ _ _ (aG.aZ (aG.qt (aG.mR (aG.aZ h _) _) _) _)
abbrev FD:List D:=[I 0,I 0,I 12,I 10,B true,B false,I 1,I 1,I 0,I 0]
theorem Nj(d:aG)(hd:d.dQ)(n:Nat)(hn:n≤8)(a b c e f:D):
 exS aD K.rH ⟨[.bp 0 0,.bp 1 0,.bp 2 0,I n,I 0,a,b,c,e,f],[d.obj,.box [.nil,.nil],.box [.ref 3 0 0,.ref 4 0 0],.arr 2 false 0 [],.arr 10 false 0 []]⟩=
 some (.exit 0,⟨[.bp 0 0,.bp 1 0,.bp 2 0,I n,I n,.und,.und,.und,.und,.und],[(d.gz n).2.obj,.box [.nil,.nil],.box [.ref 3 0 (d.gz n).1.length,.ref 4 0 0],.arr 2 false 0 (((d.gz n).1.map Place.e).map .t),.arr 10 false 0 []]⟩):=by
 refine bk (fun j=>⟨[.bp 0 0,.bp 1 0,.bp 2 0,I n,I j,.und,.und,.und,.und,.und],[(d.gz j).2.obj,.box [.nil,.nil],.box [.ref 3 0 (d.gz j).1.length,.ref 4 0 0],.arr 2 false 0 (((d.gz j).1.map Place.e).map .t),.arr 10 false 0 []]⟩) n rfl ?_ ?_ (by simp)
 · intro j hj
   have ln:=d.s7 j
   have lt:=aG.mR hd j
   simp only[aG.gz]
   generalize d.gz j=s at*
   obtain⟨l,d1⟩:=s
   simp only at ln lt ⊢
   have h1:=iX d1 4 (by omega) lt
   have b1:=d1.fA 4
   have b2:=d1.fB (n:=4) (by omega)
   have l1:=aG.aZ lt 4
   generalize d1.next 4=a1 at*
   obtain⟨x,d2⟩:=a1
   simp only at h1 b1 b2 l1 ⊢
   by_cases j0:j=0
   · subst j0
     simp(disch:=omega)only[go_sem,K.ka,h1,↓reduceIte,reduceAdd,reduceSub]
   · have h2:=PU d2 6 (by omega) (by omega) l1
     simp(disch:=omega)only[go_sem,K.ka,h1,h2,j0,↓reduceIte,reduceAdd,reduceSub]
 · simp(disch:=omega)only[go_sem,K.ka,↓reduceIte]
theorem Nk(d:aG)(hd:d.dQ)(n:Nat)(hn:n≤8)(h1:1≤n)(ps:List Place)(a b c e:D):
 exS aD K.rI ⟨[.bp 0 0,.bp 1 0,.bp 2 0,I n,a,.bp 5 0,I 1,b,c,e],[d.obj,.box [.nil,.nil],.box [.ref 3 0 ps.length,.ref 4 0 0],.arr 2 false 0 ((ps.map Place.e).map .t),.arr 10 false 0 [],.box FD]⟩=
 some (.exit 2,⟨[.bp 0 0,.bp 1 0,.bp 2 0,I n,.und,.bp 5 0,I n,.und,.und,.und],[(d.mQ (n-1)).2.obj,.box [.nil,.nil],.box [.ref 3 0 ps.length,.ref 4 0 (d.mQ (n-1)).1.length],.arr 2 false 0 ((ps.map Place.e).map .t),.arr 10 false 0 (((d.mQ (n-1)).1.map Road.e).map .t),.box FD]⟩):=by
 refine bk (fun j=>⟨[.bp 0 0,.bp 1 0,.bp 2 0,I n,.und,.bp 5 0,I (j+1),.und,.und,.und],[(d.mQ j).2.obj,.box [.nil,.nil],.box [.ref 3 0 ps.length,.ref 4 0 (d.mQ j).1.length],.arr 2 false 0 ((ps.map Place.e).map .t),.arr 10 false 0 (((d.mQ j).1.map Road.e).map .t),.box FD]⟩) (n-1) rfl ?_ ?_ (by simp)
 · intro j hj
   have ln:=d.vW j
   have lt:=aG.qt hd j
   simp only[aG.mQ]
   generalize d.mQ j=s at*
   obtain⟨l,d1⟩:=s
   simp only[aG.Nh]at ln lt ⊢
   have h1:=iX d1 (min ((j:Int)+1) 2) (by omega) lt
   have b1:=d1.fA (min ((j:Int)+1) 2)
   have b2:=d1.fB (n:=min ((j:Int)+1) 2) (by omega)
   have l1:=aG.aZ lt (min ((j:Int)+1) 2)
   generalize d1.next (min ((j:Int)+1) 2)=a1 at*
   obtain⟨x,d2⟩:=a1
   simp only at h1 b1 b2 l1 ⊢
   have h2:=PV d2 [11,59,119,4] (by simp) (by simp) l1
   have m2:=d2.yV (l:=[11,59,119,4]) (by simp)
   have l2:=aG.ql l1 [11,59,119,4]
   generalize d2.of [11,59,119,4]=a2 at*
   obtain⟨y,d3⟩:=a2
   simp only[tL,List.map_cons,List.map_nil]at h2 m2 l2 ⊢
   have h3:=PV d3 [9,3,19] (by simp) (by simp) l2
   have m3:=d3.yV (l:=[9,3,19]) (by simp)
   generalize d3.of [9,3,19]=a3 at*
   obtain⟨z,d4⟩:=a3
   simp only[tL,List.map_cons,List.map_nil,List.mem_cons,List.not_mem_nil,or_false]at h3 m2 m3 ⊢
   simp(disch:=omega)only[go_sem,K.mB,h1,h2,h3,↓reduceIte,reduceAdd,reduceSub]
 · simp(disch:=omega)only[go_sem,K.mB,↓reduceIte]
   rw[show((n-1:Nat):Int)+1=n by omega]
abbrev HN(d:aG)(ps:List Place)(l:List Road):aq:=[d.obj,.box [.nil,.nil],.box [.ref 3 0 ps.length,.ref 4 0 l.length],.arr 2 false 0 ((ps.map Place.e).map .t),.arr 10 false 0 ((l.map Road.e).map .t),.box FD]
theorem Nl(d:aG)(hd:d.dQ)(n:Int)(hn:1≤n)(hn2:n≤8)(ps:List Place)(l:List Road)(hl:l.length<10)(k:Nat)(hk:k≤10):
 gE true [4,6,7,9] 6 (exS aD K.eX ⟨[.bp 0 0,.bp 1 0,.bp 2 0,I n,.und,.bp 5 0,.und,.und,I (k+1),.und],HN d ps l⟩)=
 some ⟨[.bp 0 0,.bp 1 0,.bp 2 0,I n,.und,.bp 5 0,.und,.und,I k,.und],HN (d.s6 n).2 ps (if(d.s6 n).1.frm=(d.s6 n).1.to then l else l++[(d.s6 n).1])⟩:=by
 unfold aG.s6 HN
 simp only
 have h1:=iX d n (by omega) hd
 have l1:=aG.aZ hd n
 generalize d.next n=a1 at*
 obtain⟨x1,d1⟩:=a1
 simp only at h1 l1 ⊢
 have h2:=iX d1 n (by omega) l1
 have l2:=aG.aZ l1 n
 generalize d1.next n=a2 at*
 obtain⟨x2,d2⟩:=a2
 simp only at h2 l2 ⊢
 have h3:=PV d2 [11,59,199] (by simp) (by simp) l2
 have m3:=d2.yV (l:=[11,59,199]) (by simp)
 have l3:=aG.ql l2 [11,59,199]
 generalize d2.of [11,59,199]=a3 at*
 obtain⟨x3,d3⟩:=a3
 simp only[tL,List.map_cons,List.map_nil]at h3 m3 l3 ⊢
 have h4:=PV d3 [9,3] (by simp) (by simp) l3
 have m4:=d3.yV (l:=[9,3]) (by simp)
 have l4:=aG.ql l3 [9,3]
 generalize d3.of [9,3]=a4 at*
 obtain⟨x4,d4⟩:=a4
 simp only[tL,List.map_cons,List.map_nil]at h4 m4 l4 ⊢
 have h5:=iX d4 5 (by omega) l4
 have l5:=aG.aZ l4 5
 generalize d4.next 5=a5 at*
 obtain⟨x5,d5⟩:=a5
 simp only at h5 l5 ⊢
 have h6:=PU d5 6 (by omega) (by omega) l5
 generalize d5.one 6=a6 at*
 obtain⟨x6,d6⟩:=a6
 simp only[List.mem_cons,List.not_mem_nil,or_false]at h6 m3 m4 ⊢
 by_cases e:x1=x2
 · simp(disch:=omega)only[go_sem,K.eX,h1,h2,h3,h4,h5,h6,e,↓reduceIte,reduceAdd,reduceSub]
 · simp(disch:=omega)only[go_sem,K.eX,h1,h2,h3,h4,h5,h6,e,↓reduceIte,reduceAdd,reduceSub]
theorem ED(n:Int)(hn:1≤n)(hn2:n≤8)(ps:List Place):∀(k:Nat) (d:aG) (l:List Road),d.dQ→l.length≤10→k≤10→
 ∃z:Int,nW true [4,6,7,9] (exS aD K.eX) ⟨[.bp 0 0,.bp 1 0,.bp 2 0,I n,.und,.bp 5 0,.und,.und,I k,.und],HN d ps l⟩=
 some (.exit 4,⟨[.bp 0 0,.bp 1 0,.bp 2 0,I n,.und,.bp 5 0,.und,.und,I z,.und],HN (aG.more n l d k).2 ps (aG.more n l d k).1⟩)
 | 0,d,l,hd,hl,hk=>by
   refine⟨0,eD ?_ (by simp)⟩
   simp(disch:=omega)only[go_sem,K.eX,aG.more,↓reduceIte,reduceAdd,reduceSub]
 | k+1,d,l,hd,hl,hk=>by
   by_cases h:l.length<10
   · have hr:=Nl d hd n hn hn2 ps l h k (by omega)
     obtain⟨z,hz⟩:=ED n hn hn2 ps k (d.s6 n).2 (if(d.s6 n).1.frm=(d.s6 n).1.to then l else l++[(d.s6 n).1]) (aG.CU hd n) (by split<;>(try rw[aLv,List.length_singleton])<;>omega) (by omega)
     refine⟨z,fL hr ?_⟩
     rw[hz]
     simp only[aG.more,if_pos h]
   · refine⟨(k:Int)+1,eD ?_ (by simp)⟩
     simp(disch:=omega)only[go_sem,K.eX,aG.more,↓reduceIte,reduceAdd,reduceSub]
theorem aG.LI(n:Int):∀(k:Nat) (l:List Road) (d:aG),l.length≤10→(aG.more n l d k).1.length≤10
 | 0,l,d,h=>h
 | k+1,l,d,h=>by
   unfold aG.more
   split
   · exact aG.LI n k _ _ (by split<;>(try rw[aLv,List.length_singleton])<;>omega)
   · exact h
theorem aG.BU(d:aG):2≤d.xW∧d.xW≤7:=by
 unfold aG.xW
 have:=d.fA 6
 have:=d.fB (n:=6) (by omega)
 split<;>omega
theorem Z0(d:aG)(hd:d.dQ):aD 0 N.dF [.bp 0 0] [d.obj]=some (.t d.WM.1.e,[d.WM.2.obj]):=by
 refine ao K.om rfl ?_
 have nb:=d.BU
 unfold aG.WM
 have h0:=iX d 6 (by omega) hd
 have l0:=aG.aZ hd 6
 have b1:=d.fA 6
 have b2:=d.fB (n:=6) (by omega)
 have hL:=d.V1 6
 have hN:(d.xW:Int)=if d.L.length=0 then 4 else 2+(d.next 6).1:=by unfold aG.xW;split<;>omega
 have e1:d.Ud=aG.more d.xW d.FC.1 (d.FC.2.next 4).2 (d.FC.2.next 4).1.toNat:=rfl
 have e2:d.FC=d.QD.2.mQ (d.xW-1):=rfl
 have e3:d.QD=(d.next 6).2.gz d.xW:=rfl
 generalize d.Ud=X at*
 generalize d.FC=R at*
 generalize d.QD=P at*
 generalize d.xW=n at*
 generalize d.next 6=a at*
 obtain⟨x,d1⟩:=a
 simp only at h0 l0 b1 b2 hL hN e3 ⊢
 have q1:=Nj d1 l0 n (by omega)
 have lP:=aG.mR l0 n
 have nP:=d1.s7 n
 rw[← e3]at q1 lP nP
 obtain⟨ps,d2⟩:=P
 simp only at q1 lP nP e2 ⊢
 have q2:=Nk d2 lP n (by omega) (by omega) ps
 have lR:=aG.qt lP (n-1)
 have nR:=d2.vW (n-1)
 rw[← e2]at q2 lR nR
 obtain⟨rs,d3⟩:=R
 simp only at q2 lR nR e1 ⊢
 have h4:=iX d3 4 (by omega) lR
 have l4:=aG.aZ lR 4
 have b3:=d3.fA 4
 have b4:=d3.fB (n:=4) (by omega)
 generalize d3.next 4=c at*
 obtain⟨y,d4⟩:=c
 simp only at h4 l4 b3 b4 e1 ⊢
 obtain⟨z,q3⟩:=ED n (by omega) (by omega) ps y.toNat d4 rs l4 (by omega) (by omega)
 rw[← e1]at q3
 have q3:=uT (vs:=[.bp 0 0,.bp 1 0,.bp 2 0,I n,.und,.bp 5 0,I n,.und,I y.toNat,.und]) q3
 have ey:(y.toNat:Int)=y:=by omega
 rw[ey]at q3
 obtain⟨xs,d5⟩:=X
 have fin:∀k:Int,(exS aD K.rJ ⟨[.bp 0 0,.bp 1 0,.bp 2 0,I n,.und,.bp 5 0,I n,.und,I y,.und],HN d4 ps rs⟩)=
  some (.exit 4,⟨[.bp 0 0,.bp 1 0,.bp 2 0,I n,.und,.bp 5 0,.und,.und,I z,.und],HN d5 ps xs⟩):=fun _=>q3
 clear q3
 have q3:=fin 0
 clear fin
 simp only[HN]at q3
 by_cases c0:d.L.length=0
 · rw[if_pos c0]at hN
   obtain rfl:n=4:=by omega
   have e4:((4:Nat):Int)=4:=rfl
   simp only[e4]at q1 q2 q3
   simp(disch:=omega)only[go_sem,K.dF,↓reduceIte,h0,c0,q1,q2,q3,h4,hL,reduceAdd,reduceSub]
 · rw[if_neg c0]at hN
   simp(disch:=omega)only[go_sem,K.dF,↓reduceIte,h0,c0,q1,q2,q3,h4,hL,hN.symm,reduceAdd,reduceSub]
theorem aG.Ue(d:aG){n:Nat}{i:Int}(h1:1≤i)(h2:i<n):(d.Nh i).1.ok n:=by
 have b1:=d.fA (min i 2)
 have b2:=d.fB (n:=min i 2) (by omega)
 have m2:=(d.next (min i 2)).2.yV (l:=[11,59,119,4]) (by simp)
 have m3:=((d.next (min i 2)).2.of [11,59,119,4]).2.yV (l:=[9,3,19]) (by simp)
 simp only[List.mem_cons,List.not_mem_nil,or_false]at m2 m3
 unfold aG.Nh
 constructor<;>(simp only;omega)
theorem aG.HO(d:aG){n:Nat}:∀k,k+1≤n→∀r∈(d.mQ k).1,r.ok n
 | 0,_,r,hr=>by simp[aG.mQ]at hr
 | k+1,h,r,hr=>by
   simp only[aG.mQ,List.mem_append,List.mem_singleton]at hr
   rcases hr with hr | rfl
   · exact d.HO k (by omega) r hr
   · exact aG.Ue _ (by omega) (by omega)
theorem aG.Uf(d:aG){n:Nat}(hn:1≤n)(hne:(d.s6 n).1.frm≠(d.s6 n).1.to):(d.s6 n).1.ok n:=by
 unfold aG.s6 at hne ⊢
 simp only at hne ⊢
 have b1:=d.fA n
 have b2:=d.fB (n:=(n:Int)) (by omega)
 generalize d.next n=a1 at*
 obtain⟨x1,d1⟩:=a1
 simp only at*
 have c1:=d1.fA n
 have c2:=d1.fB (n:=(n:Int)) (by omega)
 generalize d1.next n=a2 at*
 obtain⟨x2,d2⟩:=a2
 simp only at*
 have m3:=d2.yV (l:=[11,59,199]) (by simp)
 generalize d2.of [11,59,199]=a3 at*
 obtain⟨x3,d3⟩:=a3
 simp only at*
 have m4:=d3.yV (l:=[9,3]) (by simp)
 generalize d3.of [9,3]=a4 at*
 obtain⟨x4,d4⟩:=a4
 simp only[List.mem_cons,List.not_mem_nil,or_false]at m3 m4 ⊢
 constructor<;>(simp only;omega)
theorem aG.QE{n:Nat}(hn:1≤n):∀(k:Nat) (l:List Road) (d:aG),(∀r∈l,r.ok n)→∀r∈(aG.more n l d k).1,r.ok n
 | 0,l,d,h=>h
 | k+1,l,d,h=>by
   unfold aG.more
   split
   · refine aG.QE hn k _ _ ?_
     split
     · exact h
     · rename_i hne
       intro r hr
       rcases List.mem_append.1 hr with hr | hr
       · exact h r hr
       · rw[List.mem_singleton.1 hr];exact d.Uf hn hne
   · exact h
theorem aG.HP(n:Int):∀(k:Nat) (l:List Road) (d:aG),l.length≤(aG.more n l d k).1.length
 | 0,l,d=>aLs _
 | k+1,l,d=>by
   unfold aG.more
   split
   · refine Nat.le_trans ?_ (aG.HP n k _ _)
     split<;>(try rw[aLv])<;>omega
   · exact aLs _
theorem aG.HQ(d:aG):∀k,∀p∈(d.gz k).1, -30≤p.h∧p.h≤0
 | 0,p,hp=>by simp[aG.gz]at hp
 | k+1,p,hp=>by
   have b1:=(d.gz k).2.fA 4
   have b2:=(d.gz k).2.fB (n:=4) (by omega)
   unfold aG.gz at hp
   split at hp
   all_goals
    simp only[List.mem_append,List.mem_singleton]at hp
    rcases hp with hp | rfl
    · exact d.HQ k p hp
    · simp only;omega
theorem aG.CV(d:aG):d.WM.1.aa.length=d.xW:=aG.s7 _ _
theorem aG.EE(d:aG):d.xW-1≤d.WM.1.roads.length∧d.WM.1.roads.length≤10:=by
 have nb:=d.BU
 have e:d.FC.1.length=d.xW-1:=aG.vW _ _
 constructor
 · rw[← e];exact aG.HP _ _ _ _
 · exact aG.LI _ _ _ _ (by omega)
theorem aG.QF(d:aG):d.WM.1.ok:=by
 have nb:=d.BU
 have h1:=d.CV
 have h2:=d.EE
 refine⟨by omega,by omega,fun p hp=>?_,?_⟩
 · have:=aG.HQ _ _ p hp;omega
 · rw[h1]
   exact aG.QE (by omega) _ _ _ (aG.HO _ _ (by omega))
def aG.afx(d:aG):Spn×aG:=
 let a:=d.of [0,1000,5000,20000, -5000, -20000,4999,100]
 let b:=a.2.of [0,1,1000,6000]
 let c:=b.2.of [0,1,500]
 let w:=c.2.one 9
 (if w.1=true then⟨-1125899906842624,1125899906842624⟩else⟨a.1-b.1,a.1+c.1⟩,w.2)
def aG.LJ(d:aG):Nat→List Spn×aG
 | 0=>([],d)
 | k+1=>((d.LJ k).1++[((d.LJ k).2.afx).1],((d.LJ k).2.afx).2)
def aG.akc(d:aG)(m:aB):List Spn×aG:=d.LJ m.roads.length
theorem WN{gc:Bool}{dead:List Nat}{c:C}{vs:List D}{H:aq}(P:Nat→St→Prop)(n:Nat)(Q:Ex×St→Prop)(h0:P 0 ⟨mr dead vs,H⟩)
 (hs:∀j st,j<n→P j st→(∃st',gE gc dead st.H.length (exS aD c st)=some st'∧P (j+1) st')∨∃q,exS aD c st=some q∧q.1≠ .normal∧Q q)
 (he:∀st,P n st→∃q,exS aD c st=some q∧q.1≠ .normal∧Q q):∃q,exS aD (.loop gc dead c) ⟨vs,H⟩=some q∧Q q:=by
 have key:∀(k j:Nat) (st:St),j+k=n→P j st→∃q,nW gc dead (exS aD c) st=some q∧Q q:=by
  intro k
  induction k with
  | zero=>
    intro j st hj hp
    obtain⟨q,h1,h2,h3⟩:=he st (by rw[← hj];exact hp)
    exact⟨q,eD h1 h2,h3⟩
  | succ k ih=>
    intro j st hj hp
    rcases hs j st (by omega) hp with⟨st',h1,h2⟩ | ⟨q,h1,h2,h3⟩
    · obtain⟨q,h3,h4⟩:=ih (j+1) st' (by omega) h2
      exact⟨q,fL h1 h3,h4⟩
    · exact⟨q,eD h1 h2,h3⟩
 exact key n 0 _ (by omega) h0
theorem afy(l:List Int):aD 0 N.lk [.t (tL l)] []=some (.bp 0 0,[aG.obj ⟨l,0⟩]):=by
 refine ao K.xH rfl ?_
 simp(disch:=omega)only[go_sem,K.lk,↓reduceIte,aG.obj,reduceAdd,reduceSub]
theorem QG{d:aG}(hd:d.dQ)(n:Int)(h1:1≤n)(hn:n≤4611686018427387904):
 ∃(v:Int) (e:aG),aD 0 N.aC [.bp 0 0,I n] [d.obj]=some (I v,[e.obj])∧e.dQ∧0≤v∧v<n:=
 ⟨_,_,iX d n hn hd,aG.aZ hd n,d.fA n,d.fB h1⟩
theorem akd{d:aG}(hd:d.dQ)(n:Int)(h1:0≤n)(hn:n≤4611686018427387904):
 ∃(b:Bool) (e:aG),aD 0 N.cK [.bp 0 0,I n] [d.obj]=some (B b,[e.obj])∧e.dQ:=
 ⟨_,_,PU d n h1 hn hd,aG.CH hd n⟩
theorem alf{d:aG}(hd:d.dQ)(l:List Int)(hl:l≠[])(hn:l.length≤4294967296):
 ∃(v:Int) (e:aG),aD 0 N.cR [.bp 0 0,.t (tL l)] [d.obj]=some (I v,[e.obj])∧e.dQ∧v∈l:=
 ⟨_,_,PV d l hl hn hd,aG.ql hd l,d.yV hl⟩
theorem afz{d:aG}(hd:d.dQ):
 ∃(m:aB) (e:aG),aD 0 N.dF [.bp 0 0] [d.obj]=some (.t m.e,[e.obj])∧e.dQ∧m.ok∧2≤m.aa.length∧m.aa.length≤7∧1≤m.roads.length∧m.roads.length≤10:=by
 have b:=d.BU
 have p:=d.CV
 have r:=d.EE
 exact⟨_,_,Z0 d hd,aG.Ni hd,d.QF,by omega,by omega,by omega,by omega⟩
end Go.Ev
namespace Go.Ev
open Go
variable [Lib] [cu] [bM] [gu] [gk]
abbrev never:Int:=1099511627776
abbrev Wh.box(w:Wh):Obj:= .box [I w.time,.t (tL w.frm)]
abbrev tX(xs:List World):T:= .sl (xs.map World.e)
structure Req where
 x:T7
 s:ahU
 k:Keys
 b:Bel
 t:Int
 from_:Int
abbrev Req.e(r:Req):T:= .agg [tL r.x.area,tI r.x.hold,tI r.x.mis,tI r.s.st,tI r.s.fi,tI r.s.se,tI r.s.ti,tL r.k.roads,tL r.k.keys,.bool r.k.out,.sl (r.b.av.map World.e),tI r.t,tI r.from_]
structure Req.sz(r:Req):Prop where
 hx:r.x.area.length≤1000000
 hk:r.k.roads.length≤1000000
 hk2:r.k.keys.length≤1000000
 hb:r.b.sz
section
variable (x : T7) (s : ahU) (k : Keys) (b : Bel) (hx : x.area.length ≤ 1000000) (hk : k.roads.length ≤ 1000000) (hk2 : k.keys.length ≤ 1000000) (hb : b.sz)
include hx hk hk2 hb
end
end Go.Ev
namespace Go.Ev
open Go
variable [Lib] [cu] [bM] [gu] [gk]
section
variable (area : List Int) (ha : area.length ≤ 1000000) (xs : List World) (hx : xs.length ≤ 1000000)
include ha hx
end
end Go.Ev
namespace Go.Ev.K
open Go.Ev
end Go.Ev.K
namespace Go.Ev
class i7 [Lib]:Prop where
namespace K
variable [Lib] [i7]
end K
end Go.Ev
namespace Go.Ev.K
open Go.Ev
def bP:Fn:= { aP:=1,vars:=[],body:= .fail,res:=[],prim:=[1]}
end Go.Ev.K
namespace Go.Ev
class dq [Lib]:Prop where
 kq:Lib.fs N.bP=some K.bP
namespace K
variable [Lib] [dq]
theorem kq:Lib.fs N.bP=some K.bP:=dq.kq
end K
end Go.Ev
namespace Go.Ev
open Go
variable [Lib] [cu] [bM] [gu] [gk] [i7] [fK] [fI] [iv] [gj] [dq]
end Go.Ev
namespace Go.Ev
open Go
theorem J5{d:D}{n:Int}(h:D7 d=some n):d= .t (.int .i64 n):=by
 unfold D7 at h
 split at h
 · cases h;rfl
 · cases h
theorem QH:∀ {es:List D} {l:List Int},cD D7 es=some l→es=l.map fun x=> .t (.int .i64 x)
 | [],l,h=>by simp[cD]at h;subst h;rfl
 | e::r,l,h=>by
   simp only[cD,aLa,aLb]at h
   obtain⟨x,hx,y,hy,rfl⟩:=h
   rw[J5 hx,QH hy];rfl
theorem CW(x:Int):∀l,(Xg x l).Perm (x::l)
 | []=> .refl _
 | y::r=>by
   unfold Xg
   split
   · exact .refl _
   · exact((CW x r).cons y).trans (.swap x y r)
theorem kG:∀l,(je l).Perm l
 | []=> .refl _
 | x::r=>(CW x _).trans ((kG r).cons x)
theorem QI{x:Int}:∀ {l:List Int},l.Pairwise (· ≤ ·)→(Xg x l).Pairwise (· ≤ ·)
 | [],_=>by simp[Xg]
 | y::r,h=>by
   unfold Xg
   split
   · rename_i hx
     refine List.pairwise_cons.2 ⟨fun z hz=>?_,h⟩
     rcases List.mem_cons.1 hz with rfl | hz
     · exact hx
     · have:=(List.pairwise_cons.1 h).1 z hz;omega
   · rename_i hx
     have h':=List.pairwise_cons.1 h
     refine List.pairwise_cons.2 ⟨fun z hz=>?_,QI h'.2⟩
     have hz:=(CW x r).mem_iff.1 hz
     rcases List.mem_cons.1 hz with rfl | hz
     · omega
     · exact h'.1 z hz
theorem s8:∀l,(je l).Pairwise (· ≤ ·)
 | []=> .nil
 | x::r=>QI (s8 r)
theorem kr(l:List Int):(je l).length=l.length:=(kG l).length_eq
theorem LK(l:List Int):(l.mergeSort fun x y=>decide (x≤y))=je l:=by
 refine List.Perm.eq_of_pairwise (le:=(· ≤ ·)) (fun a b _ _ h1 h2=>by omega) ?_ (s8 l) ((List.mergeSort_perm _ _).trans (kG l).symm)
 have:=List.pairwise_mergeSort (le:=fun x y:Int=>decide (x≤y)) (fun a b c=>by simp;omega) (fun a b=>by simp;omega) l
 exact this.imp (by simp)
end Go.Ev
namespace Go.Ev
open Go
variable [Lib] [cu] [bM] [gu] [gk] [i7] [fK] [fI] [iv] [gj] [dq]
section
variable (k : Keys) (hl : k.keys.length ≤ 1000000) (hr : k.roads.length ≤ 1000000)
include hl hr
end
end Go.Ev
namespace Go.Ev
open Go
variable [Lib] [cu] [bM] [gu] [gk] [i7] [fK] [fI] [iv] [gj] [dq]
theorem HR:∀l:List Int,cD D7 ((l.map (T.int .i64)).map .t)=some l
 | []=>rfl
 | x::r=>by simp only[List.map_cons,cD,D7,aLq,HR r,aLw]
theorem Z3(raw:Nat)(l:List Int)(hl:l.length≤4294967296):aD raw N.bP [.ref 0 0 l.length] [kF l]=some (.tup [],[kF (je l)]):=by
 refine CG K.kq (by simp[K.bP]) ?_
 have m:=HR l
 simp only[K.bP,Bl,kF,List.getElem?_cons_zero,List.length_map,lim,hl,and_self,↓reduceIte,m,aLw,List.set_cons_zero]
 rw[List.map_map]
 rfl
theorem ake{a b:List Int}(ha:a.Pairwise (· ≤ ·))(hb:b.Pairwise (· ≤ ·))(p:a.Perm b):a=b:=
 List.Perm.eq_of_pairwise (le:=(· ≤ ·)) (fun a b _ _ h1 h2=>by omega) ha hb p
section
variable (b u v y : Obj) (ds : aq)
end
end Go.Ev
namespace Go.Ev.K
open Go.Ev
def cA:C:= (.its [u (.bin .lss v10 v9)] [] 0 .skip (.exit 0) (.seq (.blk 1 (q [m v10,a 2 v8 v10,h 2 l0,w 7 (.al [.nil,.nil] []),x 6 l3,u (.st l1 l2 2 [])] [] (.blk 2 (.ite [f 0 v7,g l0,u (.ln l0),u (.ca N.eW 0 [] [.l 0,.i 1,.i 12]),u (.un .not l0),m l0,y 0 false (.fa v7 1),i 1 false l0,y 2 false (.ln l0),y 3 false (.fa v7 0),i 4 false l0,y 5 false (.ln l0),y 6 false (.bin .neq l3 l0),u (.pk l7 (.b true) l0),m l0,y 0 false (.fa v7 0),i 1 false l0,y 2 false (.ca N.gY 0 [] [.l 0]),y 3 false (.un .not l0),u (.pk l4 (.b true) l0),m l0] [] 0 (q [x 4 (.b false)] [] .ret) (.ite [f 0 v7,g l0,u (.ca N.bz 0 [] [.l 0]),u (.ca N.cO 0 [] [.l 0]),m v5,u (.ca N.bq 0 [] [.l 1,.l 0]),u (.un .not l0),m l0] [] 0 (q [x 4 (.b false)] [] .ret) (.ite [m v6,u (.bin .gtr l0 (.i 0)),m l0,y 0 true (.fa v3 0),i 1 true l0,e 2 true v6,y 3 true (.bin .sub l0 (.i 1)),y 4 true (.ia l2 l0 2),y 5 true (.fa l0 0),i 6 true l0,y 7 true (.fa v7 0),i 8 true l0,y 9 true (.ca N.bc 0 [] [.l 2,.l 0]),y 10 true (.bin .geq l0 (.i 0)),u (.pk l11 l0 (.b false)),m l0] [] 0 (q [x 4 (.b false)] [] .ret) (.ite [f 1 v7,g l0,u (.mf N.ed [.v 2]),u (.ca N.au 0 [] [.l 1,.l 0]),m l0] [] 0 (q [x 4 (.b false)] [] .ret) .skip))))))) (.reg [u (.bin .add v10 (.i 1)),x 10 l0] [])))
def qT:C:= .loop true [0,1,4,6,7] K.cA
def gO:Fn:= { aP:=2,vars:=[0,1,2,3,4,5,6,7,26,27,28],body:=(q [w 2 (.bx v0 2),w 3 (.bx v1 1),x 4 (.b false)] [] (.seq (.ite [h 2 v2,u (.ca N.dW 0 [] [.l 0]),u (.un .not l0),m l0,y 0 false (.fa v3 0),i 1 false l0,y 2 false (.ln l0),y 3 false (.ca N.eW 0 [] [.l 0,.i 1,.i 24]),y 4 false (.un .not l0),u (.pk l5 (.b true) l0)] [] 0 (q [x 4 (.b false)] [] .ret) .skip) (q [f 0 v3,g l0,a 2 l0 (.i 0),f 0 l0,g l0,u (.ca N.bz 0 [] [.l 0]),u (.ca N.cO 0 [] [.l 0]),x 5 l0] [] (.seq (q [f 0 v3,w 8 (.ld l0 1 false),w 9 (.ln l0),x 10 (.i 0)] [] (.blk 0 K.qT)) (q [x 4 (.b true)] [] .ret))))),res:=[(4,none)]}
def cO:Fn:= { aP:=1,vars:=[2],body:= .fail,res:=[(0,none)],prim:=[2,N.aT]}
def bz:Fn:= { aP:=1,vars:=[0,1,2],body:=(q [w 1 (.bx v0 1),w 2 (.mv (.c (.und)))] [] (q [u (.mf N.aT [.v 1]),x 2 l0] [] .ret)),res:=[(2,none)]}
def gY:Fn:= { aP:=1,vars:=[0,2,3],body:=(q [x 1 (.b false)] [] (q [m v0,u (.ca N.bz 0 [] [.l 0]),u (.ca N.cO 0 [] [.l 0]),x 2 l0] [] (q [m v2,u (.ca N.dA 0 [] [.l 0,.i 1,.i 65535]),x 1 l0] [] .ret))),res:=[(1,none)]}
def dO:C:= (.its [u (.bin .lss v9 v8)] [] 0 .skip (.exit 0) (.seq (.blk 1 (q [m v9,a 1 v7 v9,g l0,x 3 l2,x 4 l1] [] (.seq (.ite [m v3,m v1,u (.ln l0),u (.bin .geq l2 l0)] [] 0 (q [x 2 (.i 1)] [] .ret) .skip) (q [m v1,m v3,a 1 l1 l0,g l0,x 5 l0] [] (q [m v4,m v5,u (.ca N.dg 0 [] [.l 1,.l 0]),x 6 l0] [] (.ite [m v6,u (.bin .neq l0 (.i 0))] [] 0 (q [m v6,x 2 l0] [] .ret) .skip)))))) (.reg [u (.bin .add v9 (.i 1)),x 9 l0] [])))
def lC:C:= .loop true [2,3,4,5,6] K.dO
def bc:Fn:= { aP:=2,vars:=[0,1,4,5,6,7,8,9,10,11],body:=(q [x 2 (.i 0)] [] (.seq (q [x 7 v0,w 8 (.ln l0),x 9 (.i 0)] [] (.blk 0 K.lC)) (.seq (.ite [m v0,u (.ln l0),m v1,u (.ln l0),u (.bin .lss l2 l0)] [] 0 (q [w 2 (.mv (.i (-1)))] [] .ret) .skip) (q [x 2 (.i 0)] [] .ret)))),res:=[(2,none)]}
def au:Fn:= { aP:=2,vars:=[0,1,4],body:=(q [x 2 (.b false)] [] (q [m v0,m v1,u (.ca N.az 0 [] [.l 1,.l 0]),u (.bin .geq l0 (.i 0)),x 2 l0] [] .ret)),res:=[(2,none)]}
def ed:Fn:= { aP:=2,vars:=[0,1,2,3],body:=(q [w 2 (.bx v0 2),x 3 (.b false)] [] (q [h 2 v1,h 2 v2,u (.ca N.gy 0 [] [.l 1,.l 0]),u (.un .not l0),x 3 l0] [] .ret)),res:=[(3,none)]}
def pO:C:= (.its [u (.bin .lss v5 v4)] [] 0 .skip (.exit 0) (.seq (.blk 1 (q [a 1 v3 v5,g l0,x 2 l0] [] (.ite [m v0,m v2,u (.cw l1 0 [] [.l 0]),u (.un .not l0)] [] 0 .ret .skip))) (.reg [u (.bin .add v5 (.i 1)),x 5 l0] [])))
def qe:C:= .loop true [1,2] K.pO
def aT:Fn:= { aP:=2,vars:=[0,1,4,5,6,7],body:=(q [w 3 (.ld v1 1 false),w 4 (.ln l0),x 5 (.i 0)] [] (.blk 0 K.qe)),res:=[]}
def dg:Fn:= { aP:=2,vars:=[0,1,4,5,6],body:=(q [x 2 (.i 0)] [] (q [m v0,u (.ca N.cmp_isNaN_int 0 [] [.l 0]),x 3 l0] [] (q [m v1,u (.ca N.cmp_isNaN_int 0 [] [.l 0]),x 4 l0] [] (.seq (.ite [m v3] [] 0 (.seq (.ite [m v4] [] 0 (q [x 2 (.i 0)] [] .ret) .skip) (q [w 2 (.mv (.i (-1)))] [] .ret)) .skip) (.seq (.ite [m v4] [] 0 (q [x 2 (.i 1)] [] .ret) .skip) (.seq (.ite [m v0,m v1,u (.bin .lss l1 l0)] [] 0 (q [w 2 (.mv (.i (-1)))] [] .ret) .skip) (.seq (.ite [m v0,m v1,u (.bin .gtr l1 l0)] [] 0 (q [x 2 (.i 1)] [] .ret) .skip) (q [x 2 (.i 0)] [] .ret)))))))),res:=[(2,none)]}
def bh:C:= (.its [u (.bin .lss v5 v4)] [] 0 .skip (.exit 0) (.seq (.blk 1 (q [m v5,x 3 l0] [] (.ite [m v1,m v0,m v3,a 2 l1 l0,h 2 l0,u (.cw l4 0 [] [.l 0])] [] 0 (q [m v3,x 2 l0] [] .ret) .skip))) (.reg [u (.bin .add v5 (.i 1)),x 5 l0] [])))
def dB:C:= .loop true [2,3] K.bh
def az:Fn:= { aP:=2,vars:=[0,1,4,5,7,8],body:=(q [x 2 (.i 0)] [] (.seq (q [m v0,w 4 (.ln l0),x 5 (.i 0)] [] (.blk 0 K.dB)) (q [w 2 (.mv (.i (-1)))] [] .ret))),res:=[(2,none)]}
def cmp_isNaN_int:Fn:= { aP:=1,vars:=[0,2],body:=(q [x 1 (.b false)] [] (q [m v0,m v0,u (.bin .neq l1 l0),x 1 l0] [] .ret)),res:=[(1,none)]}
end Go.Ev.K
namespace Go.Ev
class cT [Lib]:Prop where
 s9:Lib.fs N.gO=some K.gO
 lW:Lib.fs N.cO=some K.cO
 jF:Lib.fs N.bz=some K.bz
 qU:Lib.fs N.gY=some K.gY
 jv:Lib.fs N.bc=some K.bc
 bL:Lib.fs N.au=some K.au
 pP:Lib.fs N.ed=some K.ed
 lD:Lib.fs N.aT=some K.aT
 nK:Lib.fs N.dg=some K.dg
 bU:Lib.fs N.az=some K.az
 pQ:Lib.fs N.cmp_isNaN_int=some K.cmp_isNaN_int
namespace K
variable [Lib] [cT]
theorem s9:Lib.fs N.gO=some K.gO:=cT.s9
theorem lW:Lib.fs N.cO=some K.cO:=cT.lW
theorem jF:Lib.fs N.bz=some K.bz:=cT.jF
theorem qU:Lib.fs N.gY=some K.gY:=cT.qU
theorem jv:Lib.fs N.bc=some K.bc:=cT.jv
theorem bL:Lib.fs N.au=some K.au:=cT.bL
theorem pP:Lib.fs N.ed=some K.ed:=cT.pP
theorem lD:Lib.fs N.aT=some K.aT:=cT.lD
theorem nK:Lib.fs N.dg=some K.dg:=cT.nK
theorem bU:Lib.fs N.az=some K.az:=cT.bU
theorem pQ:Lib.fs N.cmp_isNaN_int=some K.cmp_isNaN_int:=cT.pQ
end K
end Go.Ev
namespace Go.Ev
open Go
variable [Lib] [cu] [bM] [gu] [gk] [i7] [fK] [fI] [iv] [gj] [dq] [cT]
theorem CY(l:List Int):aD 0 N.bz [.t (tL l)] []=some (.fn N.aT [.bp 0 0],[.box [.t (tL l)]]):=by
 refine ao K.jF rfl ?_
 simp(disch:=omega)only[go_sem,K.bz,↓reduceIte,reduceAdd,reduceSub]
theorem Nn(l:List Int):B6 (tL l)=some l:=by
 unfold B6
 simp only
 induction l with
 | nil=>rfl
 | cons x l ih=>
   simp only[List.map_cons,cD]at ih ⊢
   rw[ih];rfl
theorem CZ(l:List Int)(hl:l.length≤1000000):aD 0 N.cO [.fn N.aT [.bp 0 0]] [.box [.t (tL l)]]=some (.t (tL (je l)),[.box [.t (tL l)]]):=by
 refine CG K.lW (by decide) ?_
 show Bl [2,N.aT] _ _=_
 simp only[Bl,if_true,List.getElem?_cons_zero,yo,aLq,Nn]
 rw[if_pos (by unfold lim;omega)]
theorem LL(a:Int):aD 0 N.cmp_isNaN_int [I a] []=some (B false,[]):=by
 refine ao K.pQ rfl ?_
 simp(disch:=omega)only[go_sem,K.cmp_isNaN_int,↓reduceIte,decide_true,Bool.not_true,reduceAdd,reduceSub]
def QJ(a b:Int):Int:=if a<b then -1 else if b<a then 1 else 0
theorem WO(a b:Int):aD 0 N.dg [I a,I b] []=some (I (QJ a b),[]):=by
 refine ao K.nK rfl ?_
 have h1:=LL a
 have h2:=LL b
 unfold QJ
 by_cases c1:a<b
 · simp(disch:=omega)only[go_sem,K.dg,↓reduceIte,h1,h2,c1,aLt,reduceAdd,reduceSub]
 · by_cases c2:b<a
   · simp(disch:=omega)only[go_sem,K.dg,↓reduceIte,h1,h2,c1,c2,aLt,reduceAdd,reduceSub]
   · simp(disch:=omega)only[go_sem,K.dg,↓reduceIte,h1,h2,c1,c2,aLt,reduceAdd,reduceSub]
def LM(a b:List Int)(j:Nat):Bool:=decide (b.length≤j)||decide (nth a j≠nth b j)
def acT(a b:List Int):Int:=match (List.range a.length).find? (LM a b)with
 | some j=>if b.length≤j then 1 else QJ (nth a j) (nth b j)
 | none=>if a.length<b.length then -1 else 0
theorem No(a b:List Int)(ha:a.length≤1000000)(hb:b.length≤1000000):aD 0 N.bc [.t (tL a),.t (tL b)] []=some (I (acT a b),[]):=by
 refine ao K.jv rfl ?_
 have loop:∀z2 z3 z4 z5 z6:D,exS aD K.lC ⟨[.t (tL a),.t (tL b),z2,z3,z4,z5,z6,.t (tL a),I a.length,I 0],[]⟩=
  some (match (List.range a.length).find? (LM a b)with
   | some j=>(.ret,⟨[.t (tL a),.t (tL b),I (if b.length≤j then 1 else QJ (nth a j) (nth b j)),I j,I (nth a j),if b.length≤j then .und else I (nth b j),if b.length≤j then .und else I (QJ (nth a j) (nth b j)),.t (tL a),I a.length,I j],[]⟩)
   | none=>(.exit 0,⟨[.t (tL a),.t (tL b),.und,.und,.und,.und,.und,.t (tL a),I a.length,I a.length],[]⟩)):=by
  intro z2 z3 z4 z5 z6
  refine cH (fun j=>⟨[.t (tL a),.t (tL b),.und,.und,.und,.und,.und,.t (tL a),I a.length,I j],[]⟩) a.length (LM a b) _ _ rfl ?_ ?_ ?_ (by simp)
  · intro j hj hp
    simp only[LM,Bool.or_eq_false_iff,decide_eq_false_iff_not,Decidable.not_not]at hp
    obtain⟨h1,h2⟩:=hp
    have c:=WO (nth a j) (nth b j)
    rw[h2]at c
    have e:QJ (nth b j) (nth b j)=0:=by unfold QJ;rw[if_neg (by omega),if_neg (by omega)]
    rw[e]at c
    simp(disch:=omega)only[go_sem,K.dO,↓reduceIte,h2,c,reduceAdd,reduceSub]
  · intro j hj hp
    refine⟨?_,by simp⟩
    by_cases h1:b.length≤j
    · rw[if_pos h1,if_pos h1,if_pos h1]
      simp(disch:=omega)only[go_sem,K.dO,↓reduceIte,reduceAdd,reduceSub]
    · rw[if_neg h1,if_neg h1,if_neg h1]
      have h2:nth a j≠nth b j:=by simpa [LM,h1]using hp
      have c:=WO (nth a j) (nth b j)
      have e:QJ (nth a j) (nth b j)≠0:=by
       unfold QJ;split
       · omega
       · split<;>omega
      generalize QJ (nth a j) (nth b j)=v at*
      simp(disch:=omega)only[go_sem,K.dO,↓reduceIte,c,e,reduceAdd,reduceSub]
  · simp(disch:=omega)only[go_sem,K.dO,↓reduceIte,reduceAdd,reduceSub]
 unfold acT
 cases hf:(List.range a.length).find? (LM a b)with
 | some j=>
   simp only[hf]at loop
   simp(disch:=omega)only[go_sem,K.bc,↓reduceIte,loop,reduceAdd,reduceSub]
 | none=>
   simp only[hf]at loop
   by_cases h:a.length<b.length
   · simp(disch:=omega)only[go_sem,K.bc,↓reduceIte,loop,h,reduceAdd,reduceSub]
   · simp(disch:=omega)only[go_sem,K.bc,↓reduceIte,loop,h,reduceAdd,reduceSub]
end Go.Ev
namespace Go.Ev
open Go
variable [Lib] [cu] [bM]
theorem tc:∀ {l l':List Int},l.Nodup→(∀x∈l,x∈l')→l.length≤l'.length
 | [],_,_,_=>by simp
 | a::l,l',hn,hs=>by
   obtain⟨h1,h2⟩:=List.nodup_cons.1 hn
   have ha:a∈l':=hs a List.mem_cons_self
   have:=tc (l:=l) (l':=l'.erase a) h2 fun x hx=>by
    have hne:x≠a:=fun e=>h1 (e▸hx)
    exact(List.mem_erase_of_ne hne).2 (hs x (List.mem_cons_of_mem _ hx))
   have h3:=List.length_erase_of_mem ha
   have h4:0<l'.length:=List.length_pos_of_mem ha
   simp only[List.length_cons]
   omega
theorem nL{l:List Int}{x:Int}:0≤cN l x↔x∈l:=by
 unfold cN
 cases hf:(List.range l.length).find? (fun j=>decide (nth l j=x))with
 | some j=>
   obtain⟨h1,h2⟩:=CI hf
   have:=ai h1
   rw[of_decide_eq_true h2]at this
   simp[this]
 | none=>
   have:=List.find?_eq_none.1 hf
   simp only[Int.reduceNeg]
   constructor
   · intro h;simp at h
   · intro h
     obtain⟨j,hj⟩:=aLf.1 h
     have hl:=(aLe.1 hj).1
     have:=this j (aLu.2 hl)
     rw[bC hj]at this
     simp at this
theorem kH{l:List Int}(h:iG l=true):l.Nodup:=by
 simp only[iG,aLx,aLu,pM,decide_eq_true_eq]at h
 refine List.pairwise_iff_getElem.2 fun i j hi hj hij e=>?_
 obtain⟨-, -,h3⟩:=h j hj
 have h4:¬nth l j∈l.take j:=fun hm=>by have:=nL.2 hm;omega
 apply h4
 apply aLf.2
 refine⟨i,?_⟩
 rw[List.getElem?_take_of_lt hij,aLc hi,e,←aLc hj,cG hj]
theorem iR{m:aB}{b:Bel}(h:qq m b=true):1≤b.av.length∧b.av.length≤24∧1≤(nth b.av 0).tags.length∧(nth b.av 0).tags.length≤12∧
 ∀i,i<b.av.length→rS m b.av (nth b.av 0).tags i=true:=by
 simp only[qq,aLr,decide_eq_true_eq,aLx,aLu]at h
 exact⟨h.1.1.1,h.1.1.2,h.1.2.1,h.1.2.2,h.2⟩
theorem kt{m:aB}{ws:List World}{first:List Int}{i:Nat}(h:rS m ws first i=true):(nth ws i).tags.length=first.length∧(nth ws i).whr.length=first.length∧iG (nth ws i).tags=true∧
 ∀k,k<(nth ws i).tags.length→nth (nth ws i).tags k∈first∧dX m (nth (nth ws i).whr k)=true:=by
 simp only[rS,aLr,decide_eq_true_eq,aLx,aLu,OE]at h
 exact⟨h.1.1.1.1,h.1.1.1.2,h.1.1.2,fun k hk=>⟨nL.1 (h.2 k hk).1,(h.2 k hk).2⟩⟩
theorem C0{m:aB}{b:Bel}(h:qq m b=true){tag:Int}(ht:0≤cN (nth b.av 0).tags tag){i:Nat}(hi:i<b.av.length):
 0≤cN (nth b.av i).tags tag:=by
 obtain⟨h1,h2,h3,h4,h5⟩:=iR h
 obtain⟨w1,w2,w3,w4⟩:=kt (h5 i hi)
 apply nL.2
 apply Classical.byContradiction
 intro hn
 have:=tc (l:=tag::(nth b.av i).tags) (l':=(nth b.av 0).tags) (List.nodup_cons.2 ⟨hn,kH w3⟩) (by
  intro x hx
  rcases List.mem_cons.1 hx with e | hx
  · rw[e];exact nL.1 ht
  · obtain⟨j,hj⟩:=aLf.1 hx
    have:=(w4 j (aLe.1 hj).1).1
    rwa [bC hj]at this)
 simp only[List.length_cons]at this
 omega
def pR(m:aB)(b:Bel)(tag:Int):Int:=if qq m b=false then 6 else if cN (nth b.av 0).tags tag<0 then 41 else 0
theorem LN{m:aB}(h:m.ok)(b:Bel)(hs:b.sz)(tag:Int):aD 0 N.fO [.t m.e,.t b.e,I tag] []=some (I (pR m b tag),[]):=by
 refine ao K.sG rfl ?_
 have v:=FB h b hs
 unfold pR
 cases hv:qq m b with
 | false=>
   rw[hv]at v
   obtain⟨ws⟩:=b
   simp(disch:=omega)only[go_sem,K.fO,↓reduceIte,v]
 | true=>
   rw[hv]at v
   obtain⟨h1,h2,h3,h4,h5⟩:=iR hv
   have br:=pL (nth b.av 0).tags tag (by omega)
   obtain⟨ws⟩:=b
   simp only at h1 br ⊢
   by_cases c:cN (nth ws 0).tags tag<0
   · simp(disch:=omega)only[go_sem,K.fO,↓reduceIte,v,br,c,Bool.true_eq_false]
   · simp(disch:=omega)only[go_sem,K.fO,↓reduceIte,v,br,c,Bool.true_eq_false]
def Ug(a b:Wh)(t:Int):Bool:=(List.range (min a.frm.length b.frm.length)).any fun p=>decide (nth a.frm p≤t∧nth b.frm p≤t)
theorem Z4(a b:Wh)(t:Int)(ha:a.frm.length≤1000000):aD 0 N.jQ [.t a.e,.t b.e,I t] []=some (B (Ug a b t),[]):=by
 refine ao K.uJ rfl ?_
 obtain⟨t1,l1⟩:=a
 obtain⟨t2,l2⟩:=b
 unfold Ug
 simp only at ha ⊢
 have loop:∀x y z:D,exS aD K.yQ ⟨[x,y,I t,.bp 0 0,.bp 1 0,z,I 0],[.box [I t1,.t (tL l1)],.box [I t2,.t (tL l2)]]⟩=
  some (match (List.range (min l1.length l2.length)).find? (fun p=>decide (nth l1 p≤t∧nth l2 p≤t))with
   | some j=>(.ret,⟨[.und,.und,I t,.bp 0 0,.bp 1 0,B true,I j],[.box [I t1,.t (tL l1)],.box [I t2,.t (tL l2)]]⟩)
   | none=>(.exit 0,⟨[.und,.und,I t,.bp 0 0,.bp 1 0,.und,I (min l1.length l2.length:Nat)],[.box [I t1,.t (tL l1)],.box [I t2,.t (tL l2)]]⟩)):=by
  intro x y z
  refine cH (fun j=>⟨[.und,.und,I t,.bp 0 0,.bp 1 0,.und,I j],[.box [I t1,.t (tL l1)],.box [I t2,.t (tL l2)]]⟩) (min l1.length l2.length) (fun p=>decide (nth l1 p≤t∧nth l2 p≤t)) _ _ rfl ?_ ?_ ?_ (by simp)
  · intro j hj hp
    have hp:¬(nth l1 j≤t∧nth l2 j≤t):=of_decide_eq_false hp
    by_cases c:nth l1 j≤t
    · simp(disch:=omega)only[go_sem,K.jT,↓reduceIte,c]
    · simp(disch:=omega)only[go_sem,K.jT,↓reduceIte,c]
  · intro j hj hp
    have hp:nth l1 j≤t∧nth l2 j≤t:=of_decide_eq_true hp
    refine⟨?_,by simp⟩
    simp(disch:=omega)only[go_sem,K.jT,↓reduceIte]
  · by_cases h1:l1.length≤l2.length
    · have e:min l1.length l2.length=l1.length:=by omega
      rw[e]
      simp(disch:=omega)only[go_sem,K.jT,↓reduceIte]
    · have e:min l1.length l2.length=l2.length:=by omega
      rw[e]
      simp(disch:=omega)only[go_sem,K.jT,↓reduceIte]
 rw[← Fp]
 simp(disch:=omega)only[go_sem,K.jQ,↓reduceIte,loop]
 cases hf:(List.range (min l1.length l2.length)).find? (fun p=>decide (nth l1 p≤t∧nth l2 p≤t))with
 | some j=>simp(disch:=omega)only[go_sem,↓reduceIte,Option.isSome]
 | none=>simp(disch:=omega)only[go_sem,↓reduceIte,Option.isSome]
def C1(b:Bel)(aS t:Int)(p:Nat):Bool:=(List.range b.av.length).any fun i=>decide (0≤aS∧aS<(nth b.av i).whr.length)&&decide ((p:Int)∈y0 (nth (nth b.av i).whr aS.toNat) t)
def nf(b:Bel)(aS t:Int):List Int:=b9 64 (C1 b aS t)
theorem FE(b:Bel)(hs:b.sz)(aS t:Int):aD 0 N.eM [.t b.e,I aS,I t] []=some (.t (tL (nf b aS t)),[]):=by
 refine ao K.ou rfl ?_
 obtain⟨h1,h2⟩:=hs
 obtain⟨ws⟩:=b
 simp only at h1 h2
 have hlen:=fun k=>iJ k (C1 ⟨ws⟩ aS t)
 have inner:∀(j:Nat),j<64→∀a c:D,exS aD K.rK ⟨[a,I aS,I t,.bp 0 0,c,.ref 1 0 (b9 j (C1 ⟨ws⟩ aS t)).length,I j,I 0],[.box [.t (.sl (ws.map World.e))],.arr 1 false 0 (((b9 j (C1 ⟨ws⟩ aS t)).map (T.int .i64)).map .t)]⟩=
  some (match (List.range ws.length).find? (fun i=>decide (0≤aS∧aS<(nth ws i).whr.length)&&decide ((j:Int)∈y0 (nth (nth ws i).whr aS.toNat) t))with
   | some i=>(.exit 2,⟨[.und,I aS,I t,.bp 0 0,.und,.ref 1 0 ((b9 j (C1 ⟨ws⟩ aS t)).length+1),I j,I i],[.box [.t (.sl (ws.map World.e))],.arr 1 false 0 (((b9 j (C1 ⟨ws⟩ aS t)++[(j:Int)]).map (T.int .i64)).map .t)]⟩)
   | none=>(.exit 2,⟨[.und,I aS,I t,.bp 0 0,.und,.ref 1 0 (b9 j (C1 ⟨ws⟩ aS t)).length,I j,I ws.length],[.box [.t (.sl (ws.map World.e))],.arr 1 false 0 (((b9 j (C1 ⟨ws⟩ aS t)).map (T.int .i64)).map .t)]⟩)):=by
  intro j hj a c
  have hlen:=hlen j
  refine cH (fun i=>⟨[.und,I aS,I t,.bp 0 0,.und,.ref 1 0 (b9 j (C1 ⟨ws⟩ aS t)).length,I j,I i],[.box [.t (.sl (ws.map World.e))],.arr 1 false 0 (((b9 j (C1 ⟨ws⟩ aS t)).map (T.int .i64)).map .t)]⟩) ws.length _ _ _ rfl ?_ ?_ ?_ (by simp)
  · intro i hi hp
    have sz:=h2 _ (ai hi)
    generalize hx:nth ws i=x at*
    obtain⟨tags,whr⟩:=x
    obtain⟨s1,s2,s3⟩:=sz
    simp only at s1 s2 s3 hp
    generalize b9 j (C1 ⟨ws⟩ aS t)=L at*
    by_cases c1:0≤aS
    · by_cases c2:aS<whr.length
      · have ps:=y4 (nth whr aS.toNat) t (s3 _ (ai (by omega)))
        have hs:=mI (y0 (nth whr aS.toNat) t) j (by
         have:=iJ (nth whr aS.toNat).frm.length (fun j=>decide (nth (nth whr aS.toNat).frm j≤t))
         have:=s3 _ (ai (l:=whr) (j:=aS.toNat) (by omega))
         unfold y0;omega)
        simp only[c1,c2,and_self,decide_true,Bool.true_and,decide_eq_false_iff_not]at hp
        simp only[hp,decide_false]at hs
        generalize hy:nth whr aS.toNat=y at*
        obtain⟨time,frm⟩:=y
        simp(disch:=omega)only[go_sem,K.gF,↓reduceIte,hx,hy,ps,hs]
      · simp(disch:=omega)only[go_sem,K.gF,↓reduceIte,hx]
    · simp(disch:=omega)only[go_sem,K.gF,↓reduceIte,hx]
  · intro i hi hp
    have sz:=h2 _ (ai hi)
    generalize hx:nth ws i=x at*
    obtain⟨tags,whr⟩:=x
    obtain⟨s1,s2,s3⟩:=sz
    simp only[aLr,decide_eq_true_eq]at s1 s2 s3 hp
    obtain⟨⟨c1,c2⟩,c3⟩:=hp
    generalize b9 j (C1 ⟨ws⟩ aS t)=L at*
    have ps:=y4 (nth whr aS.toNat) t (s3 _ (ai (by omega)))
    have hs:=mI (y0 (nth whr aS.toNat) t) j (by
     have:=iJ (nth whr aS.toNat).frm.length (fun j=>decide (nth (nth whr aS.toNat).frm j≤t))
     have:=s3 _ (ai (l:=whr) (j:=aS.toNat) (by omega))
     unfold y0;omega)
    simp only[c3,decide_true]at hs
    generalize hy:nth whr aS.toNat=y at*
    obtain⟨time,frm⟩:=y
    refine⟨?_,by simp⟩
    simp(disch:=omega)only[go_sem,K.gF,↓reduceIte,hx,hy,ps,hs]
  · generalize b9 j (C1 ⟨ws⟩ aS t)=L at*
    simp(disch:=omega)only[go_sem,K.gF,↓reduceIte]
 have loop:∀a b c:D,exS aD K.rL ⟨[a,I aS,I t,.bp 0 0,b,.ref 1 0 0,I 0,c],[.box [.t (.sl (ws.map World.e))],.arr 1 false 0 []]⟩=
  some (.exit 0,⟨[.und,I aS,I t,.bp 0 0,.und,.ref 1 0 (b9 64 (C1 ⟨ws⟩ aS t)).length,I 64,.und],[.box [.t (.sl (ws.map World.e))],.arr 1 false 0 (((b9 64 (C1 ⟨ws⟩ aS t)).map (T.int .i64)).map .t)]⟩):=by
  intro a b c
  refine bk (fun j=>⟨[.und,I aS,I t,.bp 0 0,.und,.ref 1 0 (b9 j (C1 ⟨ws⟩ aS t)).length,I j,.und],[.box [.t (.sl (ws.map World.e))],.arr 1 false 0 (((b9 j (C1 ⟨ws⟩ aS t)).map (T.int .i64)).map .t)]⟩) 64 rfl ?_ ?_ (by simp)
  · intro j hj
    have inner:=inner j hj
    have hlen:=hlen j
    rw[lT]
    have e:C1 ⟨ws⟩ aS t j=((List.range ws.length).find? (fun i=>decide (0≤aS∧aS<(nth ws i).whr.length)&&decide ((j:Int)∈y0 (nth (nth ws i).whr aS.toNat) t))).isSome:=by rw[Fp];rfl
    cases hf:(List.range ws.length).find? (fun i=>decide (0≤aS∧aS<(nth ws i).whr.length)&&decide ((j:Int)∈y0 (nth (nth ws i).whr aS.toNat) t))with
    | some i=>
      rw[hf]at e inner
      simp only[Option.isSome]at e
      simp(disch:=omega)only[go_sem,K.kc,↓reduceIte,inner,e]
    | none=>
      rw[hf]at e inner
      simp only[Option.isSome]at e
      simp(disch:=omega)only[go_sem,K.kc,↓reduceIte,inner,e,aLt]
  · simp(disch:=omega)only[go_sem,K.kc,↓reduceIte]
    rfl
 have:=hlen 64
 simp(disch:=omega)only[go_sem,K.eM,↓reduceIte,loop,nf]
def jw(m:aB)(cq:List Int)(t:Int)(j:Nat):List Wh:=(List.range j).map fun i=>(iP m (nth cq i) t).1
theorem HT(m:aB)(cq:List Int)(t:Int)(j:Nat):jw m cq t (j+1)=jw m cq t j++[(iP m (nth cq j) t).1]:=by
 unfold jw;rw[List.range_succ,List.map_append];rfl
@[simp] theorem te (m : aB) (cq : List Int) (t : Int) (j : Nat) : (jw m cq t j).length = j := by simp [jw]
def vX(m:aB)(tags cq:List Int)(t:Int):Bel×Int:=
 if tags.length=cq.length∧1≤tags.length∧tags.length≤12 then
  if iG tags=true then match (List.range tags.length).find? (fun i=> !decide ((iP m (nth cq i) t).2=0))with
   | some i=>(⟨[]⟩,(iP m (nth cq i) t).2)
   | none=>(⟨[⟨tags,jw m cq t tags.length⟩]⟩,0)
  else(⟨[]⟩,41)
 else(⟨[]⟩,6)
abbrev stH(m:aB)(tags:List Int)(r:D)(ws:List Wh):aq:=[.box (ae m),.box [r],.arr 1 false 0 ((tags.map (T.int .i64)).map .t),.box [.ref 2 0 tags.length,.ref 5 0 ws.length],.arr 2 false 0 [],.arr 2 false 0 ((ws.map Wh.e).map .t)]
theorem J6{m:aB}(h:m.ok)(tags cq:List Int)(hl:tags.length≤1000000)(t:Int):
 aD 0 N.ei [.t m.e,.t (tL tags),.t (tL cq),I t] []=some (.tup [.t (vX m tags cq t).1.e,I (vX m tags cq t).2],[]):=by
 refine ao K.sA rfl ?_
 have ck:=nO h
 have pr:=HK tags hl
 unfold vX
 by_cases c1:tags.length=cq.length
 · by_cases c2:tags.length<1
   · simp(disch:=omega)only[go_sem,K.ei,↓reduceIte,ck,show ¬(tags.length=cq.length∧1≤tags.length∧tags.length≤12)by omega]
     rfl
   · by_cases c3:12<tags.length
     · simp(disch:=omega)only[go_sem,K.ei,↓reduceIte,ck,show ¬(tags.length=cq.length∧1≤tags.length∧tags.length≤12)by omega]
       rfl
     · have c:tags.length=cq.length∧1≤tags.length∧tags.length≤12:=by omega
       rw[if_pos c]
       clear c
       cases hp:iG tags with
       | false=>
         rw[hp]at pr
         simp(disch:=omega)only[go_sem,K.ei,↓reduceIte,ck,pr,aLt]
         rfl
       | true=>
         rw[hp]at pr
         have loop:∀a b c d:D,exS aD K.wV ⟨[a,.t (tL tags),.t (tL cq),I t,.bp 0 0,.bp 1 0,b,.bp 3 0,I 0,c,d],stH m tags .nil []⟩=
          some (match (List.range tags.length).find? (fun i=> !decide ((iP m (nth cq i) t).2=0))with
           | some i=>(.ret,⟨[.und,.t (tL tags),.t (tL cq),I t,.bp 0 0,.bp 1 0,I (iP m (nth cq i) t).2,.bp 3 0,I i,.bp 6 0,I (iP m (nth cq i) t).2],stH m tags .nil (jw m cq t i)++[.box [I (iP m (nth cq i) t).1.time,.t (tL (iP m (nth cq i) t).1.frm)]]⟩)
           | none=>(.exit 0,⟨[.und,.t (tL tags),.t (tL cq),I t,.bp 0 0,.bp 1 0,.und,.bp 3 0,I tags.length,.und,.und],stH m tags .nil (jw m cq t tags.length)⟩)):=by
          intro a b c d
          refine cH (fun j=>⟨[.und,.t (tL tags),.t (tL cq),I t,.bp 0 0,.bp 1 0,.und,.bp 3 0,I j,.und,.und],stH m tags .nil (jw m cq t j)⟩) tags.length _ _ _ rfl ?_ ?_ ?_ (by simp)
          · intro j hj hp
            have st:=Lv h (nth cq j) t
            have ln:=te m cq t j
            have hp:(iP m (nth cq j) t).2=0:=by simpa using hp
            rw[HT]
            generalize jw m cq t j=L at*
            generalize iP m (nth cq j) t=r at*
            obtain⟨⟨time,frm⟩,e⟩:=r
            simp only at st hp ⊢
            subst hp
            simp(disch:=omega)only[go_sem,K.mC,↓reduceIte,stH,st,reduceAdd,reduceSub]
            done
          · intro j hj hp
            have st:=Lv h (nth cq j) t
            have ln:=te m cq t j
            have hp:(iP m (nth cq j) t).2≠0:=by simpa using hp
            generalize jw m cq t j=L at*
            generalize iP m (nth cq j) t=r at*
            obtain⟨⟨time,frm⟩,e⟩:=r
            simp only at st hp ⊢
            refine⟨?_,by simp⟩
            simp(disch:=omega)only[go_sem,K.mC,↓reduceIte,stH,st,reduceAdd,reduceSub]
            done
          · have ln:=te m cq t tags.length
            generalize jw m cq t tags.length=L at*
            simp(disch:=omega)only[go_sem,K.mC,↓reduceIte]
         simp only[stH,List.map_nil,List.length_nil]at loop
         simp(disch:=omega)only[go_sem,K.ei,↓reduceIte,ck,pr,loop]
         cases hf:(List.range tags.length).find? (fun i=> !decide ((iP m (nth cq i) t).2=0))with
         | some i=>
           simp(disch:=omega)only[go_sem,↓reduceIte]
           rfl
         | none=>
           have ln:=te m cq t tags.length
           generalize jw m cq t tags.length=L at*
           simp(disch:=omega)only[go_sem,↓reduceIte]
           rfl
 · simp(disch:=omega)only[go_sem,K.ei,↓reduceIte,ck,show ¬(tags.length=cq.length∧1≤tags.length∧tags.length≤12)by omega]
   rfl
@[go_sem] theorem ahW : ([] : List D).all pw = true := (rfl)
@[go_sem] theorem afA (d : D) (r : List D) : (d :: r).all pw = (pw d && r.all pw) := (rfl)
@[go_sem] theorem Z5 (cs : List T) : pw (.t (.agg cs)) = false := (rfl)
@[go_sem] theorem Z6 (k : IntKind) (n : Int) : pw (.t (.int k n)) = true := (rfl)
@[go_sem] theorem alg (l : List Wh) (k : Nat) (a : Int) (b : List Int) : (List.map D.t (List.map Wh.e l)).set k (D.t (T.agg [tI a, tL b])) = List.map D.t (List.map Wh.e (l.set k ⟨a, b⟩)) := by
 rw[List.map_set,List.map_set]
def EF(m:aB)(tag:Int)(l:List Int)(a b:Int)(x:World):Wh×Int:=DJ m (nth x.whr (cN x.tags tag).toNat) l a b
def J7(tag:Int)(x:World)(w:Wh):World:=⟨x.tags,x.whr.set (cN x.tags tag).toNat w⟩
def HU(tag:Int)(r:Wh×Int)(x:World)(out:List World):List World:=
 if r.2=43 then out else out++[if r.2=0 then J7 tag x r.1 else x]
def pS(m:aB)(tag:Int)(l:List Int)(a b:Int)(ws:List World):Nat→List World
 | 0=>[]
 | j+1=>HU tag (EF m tag l a b (nth ws j)) (nth ws j) (pS m tag l a b ws j)
theorem QK(tag:Int)(r:Wh×Int)(x:World)(out:List World):(HU tag r x out).length≤out.length+1:=by
 unfold HU;split<;>simp
theorem zd(m:aB)(tag:Int)(l:List Int)(a b:Int)(ws:List World):∀j,(pS m tag l a b ws j).length≤j
 | 0=>by simp[pS]
 | j+1=>by
   have:=zd m tag l a b ws j
   have:=QK tag (EF m tag l a b (nth ws j)) (nth ws j) (pS m tag l a b ws j)
   simp only[pS];omega
abbrev As(m:aB)(ws out:List World):aq:=[.box (ae m),.box [.t (.sl (ws.map World.e))],.box [.nil],.box [.ref 4 0 out.length],.arr 2 false 0 ((out.map World.e).map .t)]
theorem HV{m:aB}(h:m.ok)(ws:List World)(hw:ws.length≤1000000)(tag:Int)(l:List Int)(hp:l.length≤1000000)(a b:Int)(i:Nat)(hi:i<ws.length)(hs:(nth ws i).sz)
 (hb:0≤cN (nth ws i).tags tag) (hb2:cN (nth ws i).tags tag<(nth ws i).whr.length) (out:List World) (ho:out.length≤1000000):
 ((EF m tag l a b (nth ws i)).2≠6∧(EF m tag l a b (nth ws i)).2≠8→gE true [0,1,9,10,13,14,15,16,17,18] 5 (exS aD K.fZ ⟨[.und,.und,I tag,.t (tL l),I a,I b,.bp 0 0,.bp 1 0,.bp 2 0,.und,.und,.bp 3 0,I i,.und,.und,.und,.und,.und,.und],As m ws out⟩)=
   some ⟨[.und,.und,I tag,.t (tL l),I a,I b,.bp 0 0,.bp 1 0,.bp 2 0,.und,.und,.bp 3 0,I (i+1),.und,.und,.und,.und,.und,.und],As m ws (HU tag (EF m tag l a b (nth ws i)) (nth ws i) out)⟩)∧
 ((EF m tag l a b (nth ws i)).2=6∨(EF m tag l a b (nth ws i)).2=8→∃vs H,exS aD K.fZ ⟨[.und,.und,I tag,.t (tL l),I a,I b,.bp 0 0,.bp 1 0,.bp 2 0,.und,.und,.bp 3 0,I i,.und,.und,.und,.und,.und,.und],As m ws out⟩=
   some (.ret,⟨vs,H⟩)∧vs[8]?=some (.bp 2 0)∧vs[9]?=some (I (EF m tag l a b (nth ws i)).2)∧H[2]?=some (.box [.t (.sl (ws.map World.e))])):=by
 unfold EF HU J7
 have c1:=mM (nth ws i) hs
 have br:=pL (nth ws i).tags tag (by have:=hs.1;omega)
 have s3:=hs.2.2 _ (ai (l:=(nth ws i).whr) (j:=(cN (nth ws i).tags tag).toNat) (by omega))
 have se:=ae4 h (nth (nth ws i).whr (cN (nth ws i).tags tag).toNat) s3 l hp a b
 generalize hx:nth ws i=x at*
 obtain⟨tags,whr⟩:=x
 simp only at c1 br s3 se hb hb2 ⊢
 generalize cN tags tag=k at*
 generalize hy:nth whr k.toNat=y at*
 generalize DJ m y l a b=r at*
 obtain⟨⟨time,frm⟩,e⟩:=r
 obtain⟨t0,f0⟩:=y
 obtain⟨s1,s2, -⟩:=hs
 simp only at s1 s2 s3 se ⊢
 constructor
 · rintro ⟨n6,n8⟩
   by_cases e43:e=43
   · subst e43
     simp(disch:=omega)only[go_sem,K.fZ,↓reduceIte,As,hx,hy,c1,br,se,reduceAdd,reduceSub]
   · by_cases e0:e=0
     · subst e0
       simp(disch:=omega)only[go_sem,K.fZ,↓reduceIte,As,hx,hy,c1,br,se,reduceAdd,reduceSub]
     · simp(disch:=omega)only[go_sem,K.fZ,↓reduceIte,As,hx,hy,c1,br,se,reduceAdd,reduceSub]
 · rintro (h68 | h68)<;>subst h68
   · simp(disch:=omega)only[go_sem,K.fZ,↓reduceIte,As,hx,hy,c1,br,se,reduceAdd,reduceSub]
     exact⟨_,_,rfl,rfl,rfl,rfl⟩
   · simp(disch:=omega)only[go_sem,K.fZ,↓reduceIte,As,hx,hy,c1,br,se,reduceAdd,reduceSub]
     exact⟨_,_,rfl,rfl,rfl,rfl⟩
def HW(m:aB)(tag:Int)(l:List Int)(a b:Int)(ws:List World)(j:Nat):Bool:=decide ((EF m tag l a b (nth ws j)).2=6∨(EF m tag l a b (nth ws j)).2=8)
def vf(m:aB)(b:Bel)(tag:Int)(l:List Int)(a c:Int):Bel×Int:=
 if pR m b tag≠0 then(b,pR m b tag)else match (List.range b.av.length).find? (HW m tag l a c b.av)with
  | some i=>(b,(EF m tag l a c (nth b.av i)).2)
  | none=>if(pS m tag l a c b.av b.av.length).length=0 then(b,43)else(⟨pS m tag l a c b.av b.av.length⟩,0)
theorem QL{m:aB}(h:m.ok)(b:Bel)(hs:b.sz)(tag:Int)(l:List Int)(hp:l.length≤1000000)(a c:Int):
 aD 0 N.ji [.t m.e,.t b.e,I tag,.t (tL l),I a,I c] []=some (.tup [.t (vf m b tag l a c).1.e,I (vf m b tag l a c).2],[]):=by
 refine ao K.xJ rfl ?_
 have cb:=vV b hs
 have bo:=LN h b hs tag
 unfold vf
 by_cases e0:pR m b tag=0
 · have hb:qq m b=true:=by
    unfold pR at e0
    by_cases hb:qq m b=true
    · exact hb
    · rw[if_pos (by simpa using hb)]at e0;omega
   have ht:0≤cN (nth b.av 0).tags tag:=by
    unfold pR at e0
    rw[if_neg (by simp[hb])]at e0
    by_cases ht:cN (nth b.av 0).tags tag<0
    · rw[if_pos ht]at e0;omega
    · omega
   have bb:∀i,i<b.av.length→0≤cN (nth b.av i).tags tag∧cN (nth b.av i).tags tag<(nth b.av i).whr.length:=fun i hi=>by
    obtain⟨-, -, -, -,h5⟩:=iR hb
    obtain⟨w1,w2, -⟩:=kt (h5 i hi)
    have b1:=C0 hb ht (i:=i) hi
    have b2:=(Ar b1).1
    exact⟨b1,by omega⟩
   rw[e0]at bo
   obtain⟨ws⟩:=b
   obtain⟨s1,s2⟩:=hs
   simp only at s1 s2 bb cb bo ⊢
   have ln:=zd m tag l a c ws
   have loop:=fun x y z u v w p q r=>nZ (gc:=true) (dead:=[0,1,9,10,13,14,15,16,17,18]) (c:=K.fZ)
    (vs:=[x,y,I tag,.t (tL l),I a,I c,.bp 0 0,.bp 1 0,.bp 2 0,z,u,.bp 3 0,I 0,v,w,p,q,r,.und]) (H:=As m ws [])
    (fun j=>⟨[.und,.und,I tag,.t (tL l),I a,I c,.bp 0 0,.bp 1 0,.bp 2 0,.und,.und,.bp 3 0,I j,.und,.und,.und,.und,.und,.und],As m ws (pS m tag l a c ws j)⟩) ws.length (HW m tag l a c ws)
    (fun j q=>q.1= .ret∧q.2.vs[8]?=some (.bp 2 0)∧q.2.vs[9]?=some (I (EF m tag l a c (nth ws j)).2)∧q.2.H[2]?=some (.box [.t (.sl (ws.map World.e))]))
    (.exit 0,⟨[.und,.und,I tag,.t (tL l),I a,I c,.bp 0 0,.bp 1 0,.bp 2 0,.und,.und,.bp 3 0,I ws.length,.und,.und,.und,.und,.und,.und],As m ws (pS m tag l a c ws ws.length)⟩) rfl
    (fun j hj hq=>by
     have:=ln j
     have hq:¬((EF m tag l a c (nth ws j)).2=6∨(EF m tag l a c (nth ws j)).2=8):=by simpa [HW]using hq
     obtain⟨b1,b2⟩:=bb j hj
     exact(HV h ws s1 tag l hp a c j hj (s2 _ (ai hj)) b1 b2 (pS m tag l a c ws j) (by omega)).1 (by omega))
    (fun j hj hq=>by
     have:=ln j
     have hq:(EF m tag l a c (nth ws j)).2=6∨(EF m tag l a c (nth ws j)).2=8:=by simpa [HW]using hq
     obtain⟨b1,b2⟩:=bb j hj
     obtain⟨vs,H,q1,q2⟩:=(HV h ws s1 tag l hp a c j hj (s2 _ (ai hj)) b1 b2 (pS m tag l a c ws j) (by omega)).2 hq
     exact⟨_,q1,by simp,rfl,q2⟩)
    (by
     have:=ln ws.length
     generalize pS m tag l a c ws ws.length=L at*
     simp(disch:=omega)only[go_sem,K.fZ,↓reduceIte,As,reduceAdd,reduceSub]) (by simp)
   have loop':∀x y z u v w p q r,_∨_:=loop
   clear loop
   rcases loop' (.t m.e) (.t (Bel.e ⟨ws⟩)) (I 0) (I 0) .und .und .und .und .und with⟨e1,e2⟩ | ⟨j,⟨x,vs,H⟩,e1,e2,e3,e4,e5,e6⟩
   · have e2:exS aD K.uE _=_:=e2
     simp only[As,List.map_nil,List.length_nil]at e2
     have:=ln ws.length
     rw[e1]
     generalize pS m tag l a c ws ws.length=L at*
     by_cases L0:L.length=0
     · simp(disch:=omega)only[go_sem,K.ji,↓reduceIte,cb,bo,e2,L0,reduceAdd,reduceSub,ne_eq,not_true_eq_false]
     · simp(disch:=omega)only[go_sem,K.ji,↓reduceIte,cb,bo,e2,L0,reduceAdd,reduceSub,ne_eq,not_true_eq_false]
   · have e2:exS aD K.uE _=_:=e2
     simp only[As,List.map_nil,List.length_nil]at e2
     rw[e1]
     simp only at e3 e4 e5 e6
     subst e3
     simp(disch:=omega)only[go_sem,K.ji,↓reduceIte,cb,bo,e2,reduceAdd,reduceSub,ne_eq,not_true_eq_false,e4,e5,e6,List.take_zero]
 · obtain⟨ws⟩:=b
   simp(disch:=omega)only[go_sem,K.ji,↓reduceIte,cb,bo,e0,ne_eq,not_false_eq_true]
def EG(m:aB)(tag:Int)(l:List Int)(a b bl:Int)(x:World):Wh×Int:=Eu m (nth x.whr (cN x.tags tag).toNat) l a b bl
def J8(tag:Int)(r:Wh×Int)(x:World)(out:List World):List World:=out++[if r.2=0 then J7 tag x r.1 else x]
def rV(m:aB)(tag:Int)(l:List Int)(a b bl:Int)(ws:List World):Nat→List World
 | 0=>[]
 | j+1=>J8 tag (EG m tag l a b bl (nth ws j)) (nth ws j) (rV m tag l a b bl ws j)
theorem ze(m:aB)(tag:Int)(l:List Int)(a b bl:Int)(ws:List World):∀j,(rV m tag l a b bl ws j).length=j
 | 0=>rfl
 | j+1=>by
   simp only[rV,J8,aLv,ze m tag l a b bl ws j,List.length_singleton]
theorem HX{m:aB}(h:m.ok)(ws:List World)(hw:ws.length≤1000000)(tag:Int)(l:List Int)(hp:l.length≤1000000)(a b bl:Int)(i:Nat)(hi:i<ws.length)(hs:(nth ws i).sz)
 (hb:0≤cN (nth ws i).tags tag) (hb2:cN (nth ws i).tags tag<(nth ws i).whr.length) (out:List World) (ho:out.length≤1000000):
 ((EG m tag l a b bl (nth ws i)).2≠6∧(EG m tag l a b bl (nth ws i)).2≠8→gE true [0,1,10,11,14,15,16,17] 5 (exS aD K.ec ⟨[.und,.und,I tag,.t (tL l),I a,I b,I bl,.bp 0 0,.bp 1 0,.bp 2 0,.und,.und,.bp 3 0,I i,.und,.und,.und,.und],As m ws out⟩)=
   some ⟨[.und,.und,I tag,.t (tL l),I a,I b,I bl,.bp 0 0,.bp 1 0,.bp 2 0,.und,.und,.bp 3 0,I (i+1),.und,.und,.und,.und],As m ws (J8 tag (EG m tag l a b bl (nth ws i)) (nth ws i) out)⟩)∧
 ((EG m tag l a b bl (nth ws i)).2=6∨(EG m tag l a b bl (nth ws i)).2=8→∃vs H,exS aD K.ec ⟨[.und,.und,I tag,.t (tL l),I a,I b,I bl,.bp 0 0,.bp 1 0,.bp 2 0,.und,.und,.bp 3 0,I i,.und,.und,.und,.und],As m ws out⟩=
   some (.ret,⟨vs,H⟩)∧vs[9]?=some (.bp 2 0)∧vs[10]?=some (I (EG m tag l a b bl (nth ws i)).2)∧H[2]?=some (.box [.t (.sl (ws.map World.e))])):=by
 unfold EG J8 J7
 have c1:=mM (nth ws i) hs
 have br:=pL (nth ws i).tags tag (by have:=hs.1;omega)
 have s3:=hs.2.2 _ (ai (l:=(nth ws i).whr) (j:=(cN (nth ws i).tags tag).toNat) (by omega))
 have se:=ae5 h (nth (nth ws i).whr (cN (nth ws i).tags tag).toNat) s3 l hp a b bl
 generalize hx:nth ws i=x at*
 obtain⟨tags,whr⟩:=x
 simp only at c1 br s3 se hb hb2 ⊢
 generalize cN tags tag=k at*
 generalize hy:nth whr k.toNat=y at*
 generalize Eu m y l a b bl=r at*
 obtain⟨⟨time,frm⟩,e⟩:=r
 obtain⟨t0,f0⟩:=y
 obtain⟨s1,s2, -⟩:=hs
 simp only at s1 s2 s3 se ⊢
 constructor
 · rintro ⟨n6,n8⟩
   by_cases e0:e=0
   · subst e0
     simp(disch:=omega)only[go_sem,K.ec,↓reduceIte,As,hx,hy,c1,br,se,reduceAdd,reduceSub]
   · simp(disch:=omega)only[go_sem,K.ec,↓reduceIte,As,hx,hy,c1,br,se,reduceAdd,reduceSub]
 · rintro (h68 | h68)<;>subst h68
   · simp(disch:=omega)only[go_sem,K.ec,↓reduceIte,As,hx,hy,c1,br,se,reduceAdd,reduceSub]
     exact⟨_,_,rfl,rfl,rfl,rfl⟩
   · simp(disch:=omega)only[go_sem,K.ec,↓reduceIte,As,hx,hy,c1,br,se,reduceAdd,reduceSub]
     exact⟨_,_,rfl,rfl,rfl,rfl⟩
def HY(m:aB)(tag:Int)(l:List Int)(a b bl:Int)(ws:List World)(j:Nat):Bool:=decide ((EG m tag l a b bl (nth ws j)).2=6∨(EG m tag l a b bl (nth ws j)).2=8)
def vg(m:aB)(b:Bel)(tag:Int)(l:List Int)(a c bl:Int):Bel×Int:=
 if pR m b tag≠0 then(b,pR m b tag)else match (List.range b.av.length).find? (HY m tag l a c bl b.av)with
  | some i=>(b,(EG m tag l a c bl (nth b.av i)).2)
  | none=>(⟨rV m tag l a c bl b.av b.av.length⟩,0)
theorem J9{m:aB}{b:Bel}{tag:Int}(e0:pR m b tag=0):qq m b=true∧∀i,i<b.av.length→0≤cN (nth b.av i).tags tag∧cN (nth b.av i).tags tag<(nth b.av i).whr.length:=by
 have hb:qq m b=true:=by
  unfold pR at e0
  by_cases hb:qq m b=true
  · exact hb
  · rw[if_pos (by simpa using hb)]at e0;omega
 have ht:0≤cN (nth b.av 0).tags tag:=by
  unfold pR at e0
  rw[if_neg (by simp[hb])]at e0
  by_cases ht:cN (nth b.av 0).tags tag<0
  · rw[if_pos ht]at e0;omega
  · omega
 refine⟨hb,fun i hi=>?_⟩
 obtain⟨-, -, -, -,h5⟩:=iR hb
 obtain⟨w1,w2, -⟩:=kt (h5 i hi)
 have b1:=C0 hb ht (i:=i) hi
 have b2:=(Ar b1).1
 exact⟨b1,by omega⟩
theorem QN{m:aB}(h:m.ok)(b:Bel)(hs:b.sz)(tag:Int)(l:List Int)(hp:l.length≤1000000)(a c bl:Int):
 aD 0 N.fv [.t m.e,.t b.e,I tag,.t (tL l),I a,I c,I bl] []=some (.tup [.t (vg m b tag l a c bl).1.e,I (vg m b tag l a c bl).2],[]):=by
 refine ao K.qC rfl ?_
 have cb:=vV b hs
 have bo:=LN h b hs tag
 unfold vg
 by_cases e0:pR m b tag=0
 · obtain⟨hb,bb⟩:=J9 e0
   rw[e0]at bo
   obtain⟨ws⟩:=b
   obtain⟨s1,s2⟩:=hs
   simp only at s1 s2 bb cb bo ⊢
   have ln:=ze m tag l a c bl ws
   have loop:=fun x y u v w p q r=>nZ (gc:=true) (dead:=[0,1,10,11,14,15,16,17]) (c:=K.ec)
    (vs:=[x,y,I tag,.t (tL l),I a,I c,I bl,.bp 0 0,.bp 1 0,.bp 2 0,u,v,.bp 3 0,I 0,w,p,q,r]) (H:=As m ws [])
    (fun j=>⟨[.und,.und,I tag,.t (tL l),I a,I c,I bl,.bp 0 0,.bp 1 0,.bp 2 0,.und,.und,.bp 3 0,I j,.und,.und,.und,.und],As m ws (rV m tag l a c bl ws j)⟩) ws.length (HY m tag l a c bl ws)
    (fun j q=>q.1= .ret∧q.2.vs[9]?=some (.bp 2 0)∧q.2.vs[10]?=some (I (EG m tag l a c bl (nth ws j)).2)∧q.2.H[2]?=some (.box [.t (.sl (ws.map World.e))]))
    (.exit 0,⟨[.und,.und,I tag,.t (tL l),I a,I c,I bl,.bp 0 0,.bp 1 0,.bp 2 0,.und,.und,.bp 3 0,I ws.length,.und,.und,.und,.und],As m ws (rV m tag l a c bl ws ws.length)⟩) rfl
    (fun j hj hq=>by
     have:=ln j
     have hq:¬((EG m tag l a c bl (nth ws j)).2=6∨(EG m tag l a c bl (nth ws j)).2=8):=by simpa [HY]using hq
     obtain⟨b1,b2⟩:=bb j hj
     exact(HX h ws s1 tag l hp a c bl j hj (s2 _ (ai hj)) b1 b2 (rV m tag l a c bl ws j) (by omega)).1 (by omega))
    (fun j hj hq=>by
     have:=ln j
     have hq:(EG m tag l a c bl (nth ws j)).2=6∨(EG m tag l a c bl (nth ws j)).2=8:=by simpa [HY]using hq
     obtain⟨b1,b2⟩:=bb j hj
     obtain⟨vs,H,q1,q2⟩:=(HX h ws s1 tag l hp a c bl j hj (s2 _ (ai hj)) b1 b2 (rV m tag l a c bl ws j) (by omega)).2 hq
     exact⟨_,q1,by simp,rfl,q2⟩)
    (by
     have:=ln ws.length
     generalize rV m tag l a c bl ws ws.length=L at*
     simp(disch:=omega)only[go_sem,K.ec,↓reduceIte,As,reduceAdd,reduceSub]) (by simp)
   rcases loop (.t m.e) (.t (Bel.e ⟨ws⟩)) (I 0) (I 0) .und .und .und .und with⟨e1,e2⟩ | ⟨j,⟨x,vs,H⟩,e1,e2,e3,e4,e5,e6⟩
   · have e2:exS aD K.pD _=_:=e2
     simp only[As,List.map_nil,List.length_nil]at e2
     have:=ln ws.length
     rw[e1]
     generalize rV m tag l a c bl ws ws.length=L at*
     simp(disch:=omega)only[go_sem,K.fv,↓reduceIte,cb,bo,e2,reduceAdd,reduceSub,ne_eq,not_true_eq_false]
   · have e2:exS aD K.pD _=_:=e2
     simp only[As,List.map_nil,List.length_nil]at e2
     rw[e1]
     simp only at e3 e4 e5 e6
     subst e3
     simp(disch:=omega)only[go_sem,K.fv,↓reduceIte,cb,bo,e2,reduceAdd,reduceSub,ne_eq,not_true_eq_false,e4,e5,e6,List.take_zero]
 · obtain⟨ws⟩:=b
   simp(disch:=omega)only[go_sem,K.fv,↓reduceIte,cb,bo,e0,ne_eq,not_false_eq_true]
theorem zf{gc:Bool}{dead:List Nat}{c:C}{vs:List D}{H:aq}(P:Nat→St→Prop)(n:Nat)(Q:Ex×St→Prop)(h0:P 0 ⟨mr dead vs,H⟩)
 (hs:∀j st,j<n→P j st→∃st',gE gc dead st.H.length (exS aD c st)=some st'∧P (j+1) st')
 (he:∀st,P n st→∃q,exS aD c st=some q∧q.1≠ .normal∧Q q):∃q,exS aD (.loop gc dead c) ⟨vs,H⟩=some q∧Q q:=by
 have key:∀(k j:Nat) (st:St),j+k=n→P j st→∃q,nW gc dead (exS aD c) st=some q∧Q q:=by
  intro k
  induction k with
  | zero=>
    intro j st hj hp
    obtain⟨q,h1,h2,h3⟩:=he st (by rw[← hj];exact hp)
    exact⟨q,eD h1 h2,h3⟩
  | succ k ih=>
    intro j st hj hp
    obtain⟨st',h1,h2⟩:=hs j st (by omega) hp
    obtain⟨q,h3,h4⟩:=ih (j+1) st' (by omega) h2
    exact⟨q,fL h1 h3,h4⟩
 exact key n 0 _ (by omega) h0
abbrev ints(l:List Int):List D:=(l.map (T.int .i64)).map .t
abbrev whs(l:List Wh):List D:=(l.map Wh.e).map .t
def jx(out:List World)(x:World):Nat:=match (List.range out.length).find? (fun k=> !u9 (nth out k).tags x.tags)with
 | some k=>k
 | none=>out.length
theorem FF(out:List World)(x:World):jx out x≤out.length:=by
 unfold jx
 split
 · rename_i k h;exact Nat.le_of_lt (CI h).1
 · exact aLs _
def oC(a b:List Wh):Nat→List Wh
 | 0=>a
 | p+1=>(oC a b p).set p (qN (nth a p) (nth b p)).1
theorem rW(a b:List Wh):∀p,(oC a b p).length=a.length
 | 0=>rfl
 | p+1=>by simp only[oC,List.length_set,rW a b p]
theorem HZ(a b:List Wh):∀p q,p≤q→nth (oC a b p) q=nth a q
 | 0,q,_=>rfl
 | p+1,q,h=>by
   have e:nth ((oC a b p).set p (qN (nth a p) (nth b p)).1) q=nth (oC a b p) q:=by
    unfold nth;rw[aLl,aLi (by omega),←aLl]
   simp only[oC,e]
   exact HZ a b p q (by omega)
def EH(a b:List Wh):List Wh:=oC a b (min a.length b.length)
def tn(out:List World)(x:World):List World:=
 if jx out x<out.length∧(nth out (jx out x)).tags=x.tags then out.set (jx out x) ⟨x.tags,EH (nth out (jx out x)).whr x.whr⟩
 else out.take (jx out x)++[x]++out.drop (jx out x)
def vh(l:List World):Nat→List World
 | 0=>[]
 | j+1=>tn (vh l j) (nth l j)
def DK(l:List World):List World:=vh l l.length
structure Rp(H:aq)(id:Nat)(es:List D)(fa fb:Nat→Nat)(out:List World):Prop where
 arr:H[id]?=some (.arr 2 false 0 es)
 len:es.length=out.length
 el:∀j,j<out.length→es[j]?=some (.agg [.ref (fa j) 0 (nth out j).tags.length,.ref (fb j) 0 (nth out j).whr.length])
 ha:∀j,j<out.length→H[fa j]?=some (.arr 1 false 0 (ints (nth out j).tags))
 hb:∀j,j<out.length→H[fb j]?=some (.arr 2 false 0 (whs (nth out j).whr))
 na:∀j,j<out.length→fa j≠id
 nb:∀j,j<out.length→fb j≠id
 nab:∀i j,i<out.length→j<out.length→fa i≠fb j
 nbb:∀i j,i<out.length→j<out.length→i≠j→fb i≠fb j
def Rep(H:aq)(v:D)(out:List World):Prop:=(v= .nil∧out=[])∨∃id es fa fb,v= .ref id 0 out.length∧0<out.length∧Rp H id es fa fb out
theorem Z7(l:List World)(i:Nat)(hi:i<l.length)(out:List World)(ho:out.length≤1000000)(hso:∀x∈out,x.sz)(hsx:(nth l i).sz)(H:aq)(v:D)(hr:Rep H v out)(a b:D):
 exS aD K.sD ⟨[.t (.sl (l.map World.e)),a,v,I i,I 0,b],H⟩=some (.exit 2,⟨[.t (.sl (l.map World.e)),.und,v,I i,I (jx out (nth l i)),.und],H⟩):=by
 rcases hr with⟨rfl,rfl⟩ | ⟨id,es,fa,fb,rfl,h0,hr⟩
 · have:jx [] (nth l i)=0:=rfl
   rw[this]
   refine uT (eD ?_ (by simp))
   simp(disch:=omega)only[go_sem,K.lq,↓reduceIte,reduceAdd,reduceSub]
 · have key:exS aD K.sD ⟨[.t (.sl (l.map World.e)),a,.ref id 0 out.length,I i,I 0,b],H⟩=some (match (List.range out.length).find? (fun k=> !u9 (nth out k).tags (nth l i).tags)with
    | some k=>(.exit 2,⟨[.t (.sl (l.map World.e)),.und,.ref id 0 out.length,I i,I k,.und],H⟩)
    | none=>(.exit 2,⟨[.t (.sl (l.map World.e)),.und,.ref id 0 out.length,I i,I out.length,.und],H⟩)):=by
    refine cH (fun k=>⟨[.t (.sl (l.map World.e)),.und,.ref id 0 out.length,I i,I k,.und],H⟩) out.length _ _ _ rfl ?_ ?_ ?_ (by simp)
    · intro k hk hp
      have hp:u9 (nth out k).tags (nth l i).tags=true:=by simpa using hp
      have s1:=(hso _ (ai hk)).1
      have s2:=hsx.1
      have ls:=JX (nth out k).tags (nth l i).tags s1 s2
      have e1:=hr.arr
      have e2:=hr.len
      have e3:=hr.el k hk
      have e4:=hr.ha k hk
      generalize nth out k=y at*
      obtain⟨ta,wa⟩:=y
      generalize hx:nth l i=x at*
      obtain⟨tb,wb⟩:=x
      simp only at s1 s2 ls e3 e4 hp
      simp(disch:=omega)only[go_sem,K.lq,↓reduceIte,reduceAdd,reduceSub,e1,e2,e3,e4,hx,ls,hp]
      done
    · intro k hk hp
      have hp:u9 (nth out k).tags (nth l i).tags=false:=by simpa using hp
      have s1:=(hso _ (ai hk)).1
      have s2:=hsx.1
      have ls:=JX (nth out k).tags (nth l i).tags s1 s2
      have e1:=hr.arr
      have e2:=hr.len
      have e3:=hr.el k hk
      have e4:=hr.ha k hk
      generalize nth out k=y at*
      obtain⟨ta,wa⟩:=y
      generalize hx:nth l i=x at*
      obtain⟨tb,wb⟩:=x
      simp only at s1 s2 ls e3 e4 hp
      refine⟨?_,by simp⟩
      simp(disch:=omega)only[go_sem,K.lq,↓reduceIte,reduceAdd,reduceSub,e1,e2,e3,e4,hx,ls,hp]
      done
    · simp(disch:=omega)only[go_sem,K.lq,↓reduceIte,reduceAdd,reduceSub]
   rw[key]
   unfold jx
   cases (List.range out.length).find? (fun k=> !u9 (nth out k).tags (nth l i).tags)<;>rfl
theorem Z8(l:List World)(i:Nat)(hi:i<l.length)(out:List World)(ho:out.length≤1000000)(hso:∀x∈out,x.sz)(hsx:(nth l i).sz)(H:aq)(id:Nat)(es:List D)(fa fb:Nat→Nat)
 (hr:Rp H id es fa fb out) (k:Nat) (hk:k<out.length) (a:D):
 exS aD K.yR ⟨[.t (.sl (l.map World.e)),a,.ref id 0 out.length,I i,I k,I 0],H⟩=
 some (.exit 4,⟨[.t (.sl (l.map World.e)),.und,.ref id 0 out.length,I i,I k,I ((min (nth out k).whr.length (nth l i).whr.length:Nat):Int)],H.set (fb k) (.arr 2 false 0 (whs (EH (nth out k).whr (nth l i).whr)))⟩):=by
 have e1:=hr.arr
 have e2:=hr.len
 have e3:=hr.el k hk
 have e5:=hr.hb k hk
 have e6:=hr.nb k hk
 have e7:=nY e5
 obtain⟨s1,s2,s3⟩:=hso _ (ai hk)
 obtain⟨x1,x2,x3⟩:=hsx
 generalize nth out k=y at*
 obtain⟨ta,wa⟩:=y
 generalize hx:nth l i=x at*
 obtain⟨tb,wb⟩:=x
 simp only at s1 s2 s3 x1 x2 x3 e3 e5 ⊢
 have jl:=rW wa wb
 have q1:∀o,(H.set (fb k) o)[id]?=H[id]?:=fun o=>fH e6
 have q2:∀o,(H.set (fb k) o)[fb k]?=some o:=fun o=>me e7
 refine bk (fun p=>⟨[.t (.sl (l.map World.e)),.und,.ref id 0 out.length,I i,I k,I p],H.set (fb k) (.arr 2 false 0 (whs (oC wa wb p)))⟩) (min wa.length wb.length) ?_ ?_ ?_ (by simp)
 · show(⟨_,H⟩:St)=⟨_,H.set (fb k) (.arr 2 false 0 (whs wa))⟩
   rw[qi e5];rfl
 · intro p hp
   have jp:=jl p
   have jn:=HZ wa wb p p (aLs _)
   have jo:=YT (nth wa p) (nth wb p) (s3 _ (ai (by omega)))
   have hj:oC wa wb (p+1)=(oC wa wb p).set p (qN (nth wa p) (nth wb p)).1:=rfl
   rw[hj]
   generalize oC wa wb p=J at*
   generalize hu:nth wb p=u at*
   generalize nth wa p=w at*
   generalize qN w u=r at*
   obtain⟨⟨rt,rf⟩,re⟩:=r
   simp only at jo ⊢
   simp(disch:=omega)only[go_sem,K.nN,↓reduceIte,reduceAdd,reduceSub,q1,q2,e1,e2,e3,An,hx,hu,jn,jo]
 · have jp:=jl (min wa.length wb.length)
   have hj:EH wa wb=oC wa wb (min wa.length wb.length):=rfl
   rw[hj]
   generalize oC wa wb (min wa.length wb.length)=J at*
   by_cases c:wa.length≤wb.length
   · simp(disch:=omega)only[go_sem,K.nN,↓reduceIte,reduceAdd,reduceSub,q1,q2,e1,e2,e3,An,hx,Nat.min_eq_left c]
   · have hm:min wa.length wb.length=wb.length:=by omega
     simp(disch:=omega)only[go_sem,K.nN,↓reduceIte,reduceAdd,reduceSub,q1,q2,e1,e2,e3,An,hx,hm]
theorem A8{sz:Nat}{l:List D}(h:∀e∈l,e.cells.length=sz):fD sz l=true:=by
 cases l with
 | nil=>rfl
 | cons d r=>rw[Fy,im];exact h d List.mem_cons_self
theorem Rp.size{H:aq}{id:Nat}{es:List D}{fa fb:Nat→Nat}{out:List World}(hr:Rp H id es fa fb out):∀e∈es,e.cells.length=2:=by
 intro e he
 obtain⟨j,hj⟩:=aLf.1 he
 have hl:=(aLe.1 hj).1
 rw[hr.el j (by rw[← hr.len];exact hl)]at hj
 cases hj;rfl
theorem QO{α:Type}(l:List α)(k:Nat)(hk:k≤l.length)(x:α)(j:Nat):(l.take k++[x]++l.drop k)[j]?=if j<k then l[j]? else if j=k then some x else l[j-1]?:=by
 have hl:(l.take k).length=k:=by rw[List.length_take];omega
 rw[List.append_assoc]
 by_cases h1:j<k
 · rw[if_pos h1,aLg (by omega),List.getElem?_take_of_lt h1]
 · rw[if_neg h1,aLh (by omega),hl]
   by_cases h2:j=k
   · rw[if_pos h2,h2,Nat.sub_self];rfl
   · rw[if_neg h2,aLh (by simp;omega)]
     simp only[List.length_singleton,List.getElem?_drop]
     congr 1;omega
theorem Ka{α:Type} [Dat α](l:List α)(k:Nat)(hk:k≤l.length)(x:α)(j:Nat):nth (l.take k++[x]++l.drop k) j=if j<k then nth l j else if j=k then x else nth l (j-1):=by
 unfold nth
 rw[aLl,QO l k hk]
 split
 · rw[aLl]
 · split
   · rfl
   · rw[aLl]
theorem C2{α:Type} [Dat α](l:List α)(k:Nat)(hk:k<l.length)(x:α)(j:Nat):nth (l.set k x) j=if j=k then x else nth l j:=by
 unfold nth
 rw[aLl]
 by_cases h:j=k
 · rw[if_pos h,h,aLj hk];rfl
 · rw[if_neg h,aLi (fun e=>h e.symm),aLl]
theorem Rp.ins{H:aq}{id:Nat}{es:List D}{fa fb:Nat→Nat}{out:List World}(hr:Rp H id es fa fb out){k:Nat}(hk:k≤out.length)(x:World)(o:Obj):
 Rp (H++[.arr 2 false 0 (es.take k++[.agg [.ref (H.length+1) 0 x.tags.length,.ref (H.length+2) 0 x.whr.length]]++es.drop k),.arr 1 false 0 (ints x.tags),.arr 2 false 0 (whs x.whr),o]) H.length
  (es.take k++[.agg [.ref (H.length+1) 0 x.tags.length,.ref (H.length+2) 0 x.whr.length]]++es.drop k)
  (fun j=>if j<k then fa j else if j=k then H.length+1 else fa (j-1)) (fun j=>if j<k then fb j else if j=k then H.length+2 else fb (j-1)) (out.take k++[x]++out.drop k):=by
 have ol:(out.take k++[x]++out.drop k).length=out.length+1:=by
  rw[aLv,aLv,List.length_take,List.length_drop,List.length_singleton];omega
 have e2:=hr.len
 have ba:∀j,j<out.length→fa j<H.length:=fun j hj=>nY (hr.ha j hj)
 have bb:∀j,j<out.length→fb j<H.length:=fun j hj=>nY (hr.hb j hj)
 refine⟨mc,?_,?_,?_,?_,?_,?_,?_,?_⟩
 · rw[ol,aLv,aLv,List.length_take,List.length_drop,List.length_singleton];omega
 · intro j hj
   rw[ol]at hj
   simp only[QO es k (by omega),Ka out k hk]
   by_cases h1:j<k
   · simp only[if_pos h1];exact hr.el j (by omega)
   · by_cases h2:j=k
     · simp only[if_neg h1,if_pos h2]
     · simp only[if_neg h1,if_neg h2];exact hr.el (j-1) (by omega)
 · intro j hj
   rw[ol]at hj
   simp only[Ka out k hk]
   by_cases h1:j<k
   · simp only[if_pos h1];rw[lx (ba j (by omega))];exact hr.ha j (by omega)
   · by_cases h2:j=k
     · simp only[if_neg h1,if_pos h2];rw[jW];rfl
     · simp only[if_neg h1,if_neg h2];rw[lx (ba (j-1) (by omega))];exact hr.ha (j-1) (by omega)
 · intro j hj
   rw[ol]at hj
   simp only[Ka out k hk]
   by_cases h1:j<k
   · simp only[if_pos h1];rw[lx (bb j (by omega))];exact hr.hb j (by omega)
   · by_cases h2:j=k
     · simp only[if_neg h1,if_pos h2];rw[jW];rfl
     · simp only[if_neg h1,if_neg h2];rw[lx (bb (j-1) (by omega))];exact hr.hb (j-1) (by omega)
 · intro j hj
   rw[ol]at hj
   have b1:=ba j
   have b2:=ba (j-1)
   split
   · have:=b1 (by omega);omega
   · split
     · omega
     · have:=b2 (by omega);omega
 · intro j hj
   rw[ol]at hj
   have b1:=bb j
   have b2:=bb (j-1)
   split
   · have:=b1 (by omega);omega
   · split
     · omega
     · have:=b2 (by omega);omega
 · intro i j hi hj
   rw[ol]at hi hj
   have a1:=ba i
   have a2:=ba (i-1)
   have b1:=bb j
   have b2:=bb (j-1)
   by_cases h1:i<k
   · rw[if_pos h1]
     have:=a1 (by omega)
     by_cases h2:j<k
     · rw[if_pos h2];exact hr.nab i j (by omega) (by omega)
     · rw[if_neg h2]
       by_cases h3:j=k
       · rw[if_pos h3];omega
       · rw[if_neg h3];exact hr.nab i (j-1) (by omega) (by omega)
   · rw[if_neg h1]
     by_cases h4:i=k
     · rw[if_pos h4]
       split
       · have:=b1 (by omega);omega
       · split
         · omega
         · have:=b2 (by omega);omega
     · rw[if_neg h4]
       have:=a2 (by omega)
       by_cases h2:j<k
       · rw[if_pos h2];exact hr.nab (i-1) j (by omega) (by omega)
       · rw[if_neg h2]
         by_cases h3:j=k
         · rw[if_pos h3];omega
         · rw[if_neg h3];exact hr.nab (i-1) (j-1) (by omega) (by omega)
 · intro i j hi hj hne
   rw[ol]at hi hj
   have a1:=bb i
   have a2:=bb (i-1)
   have b1:=bb j
   have b2:=bb (j-1)
   by_cases h1:i<k
   · rw[if_pos h1]
     have:=a1 (by omega)
     by_cases h2:j<k
     · rw[if_pos h2];exact hr.nbb i j (by omega) (by omega) hne
     · rw[if_neg h2]
       by_cases h3:j=k
       · rw[if_pos h3];omega
       · rw[if_neg h3];exact hr.nbb i (j-1) (by omega) (by omega) (by omega)
   · rw[if_neg h1]
     by_cases h4:i=k
     · rw[if_pos h4]
       split
       · have:=b1 (by omega);omega
       · split
         · omega
         · have:=b2 (by omega);omega
     · rw[if_neg h4]
       have:=a2 (by omega)
       by_cases h2:j<k
       · rw[if_pos h2];exact hr.nbb (i-1) j (by omega) (by omega) (by omega)
       · rw[if_neg h2]
         by_cases h3:j=k
         · rw[if_pos h3];omega
         · rw[if_neg h3];exact hr.nbb (i-1) (j-1) (by omega) (by omega) (by omega)
theorem Rp.merge{H:aq}{id:Nat}{es:List D}{fa fb:Nat→Nat}{out:List World}(hr:Rp H id es fa fb out){k:Nat}(hk:k<out.length)(x:World)(ht:(nth out k).tags=x.tags)(hw:x.whr.length=(nth out k).whr.length):
 Rp (H.set (fb k) (.arr 2 false 0 (whs x.whr))) id es fa fb (out.set k x):=by
 have ol:(out.set k x).length=out.length:=List.length_set
 have nk:=hr.nb k hk
 have kl:=nY (hr.hb k hk)
 refine⟨by rw[fH nk];exact hr.arr,by rw[ol];exact hr.len,?_,?_,?_,by rw[ol];exact hr.na,by rw[ol];exact hr.nb,by rw[ol];exact hr.nab,by rw[ol];exact hr.nbb⟩
 · intro j hj
   rw[ol]at hj
   rw[hr.el j hj,C2 out k hk]
   by_cases h:j=k
   · rw[if_pos h,h,ht,hw]
   · rw[if_neg h]
 · intro j hj
   rw[ol]at hj
   rw[fH (fun e=>hr.nab j k hj hk e.symm),hr.ha j hj,C2 out k hk]
   by_cases h:j=k
   · rw[if_pos h,h,ht]
   · rw[if_neg h]
 · intro j hj
   rw[ol]at hj
   rw[C2 out k hk]
   by_cases h:j=k
   · rw[if_pos h,h,me kl]
   · rw[if_neg h,fH (fun e=>hr.nbb j k hj hk h e.symm)];exact hr.hb j hj
theorem Np(l:List World)(i:Nat)(hi:i<l.length)(hl:l.length≤1000000)(out:List World)(ho:out.length≤999999)(hso:∀x∈out,x.sz)(hsx:(nth l i).sz)(H:aq)(v:D)(hr:Rep H v out):
 ∃v' H',gE false [1,4,5] H.length (exS aD K.ga ⟨[.t (.sl (l.map World.e)),.und,v,I i,.und,.und],H⟩)=some ⟨[.t (.sl (l.map World.e)),.und,v',I (i+1),.und,.und],H'⟩∧Rep H' v' (tn out (nth l i)):=by
 have l2:=Z7 l i hi out (by omega) hso hsx H v hr
 have kl:=FF out (nth l i)
 have cw:=mM (nth l i) hsx
 rcases hr with⟨rfl,rfl⟩ | ⟨id,es,fa,fb,rfl,h0,hr⟩
 · have k0:jx [] (nth l i)=0:=rfl
   rw[k0]at l2
   have t1:tn [] (nth l i)=[nth l i]:=rfl
   rw[t1]
   generalize hx:nth l i=x at*
   obtain⟨tb,wb⟩:=x
   simp only at cw
   have run:gE false [1,4,5] H.length (exS aD K.ga ⟨[.t (.sl (l.map World.e)),.und,.nil,I i,.und,.und],H⟩)=
    some ⟨[.t (.sl (l.map World.e)),.und,.ref H.length 0 1,I (i+1),.und,.und],H++[.arr 2 false 0 [.agg [.ref (H.length+1) 0 tb.length,.ref (H.length+2) 0 wb.length]],.arr 1 false 0 (ints tb),.arr 2 false 0 (whs wb),.arr 2 false 0 [.agg [.ref (H.length+1) 0 tb.length,.ref (H.length+2) 0 wb.length]]]⟩:=by
    simp(disch:=omega)only[go_sem,K.ga,↓reduceIte,reduceAdd,reduceSub,l2,hx,cw,mc,jW,pj,vU,Nat.add_assoc]
   refine⟨_,_,run,.inr ⟨H.length,_,fun _=>H.length+1,fun _=>H.length+2,rfl,by simp,⟨mc,rfl,?_,?_,?_,?_,?_,?_,?_⟩⟩⟩
   all_goals skip
   · intro j hj;obtain rfl:j=0:=by simpa using hj
     rfl
   · intro j hj;obtain rfl:j=0:=by simpa using hj
     rw[jW];rfl
   · intro j hj;obtain rfl:j=0:=by simpa using hj
     rw[jW];rfl
   · intro j hj;omega
   · intro j hj;omega
   · intro i j hi hj;omega
   · intro i j hi hj hne
     have h1:i=0:=by simpa using hi
     have h2:j=0:=by simpa using hj
     omega
 · have e1:=hr.arr
   have e2:=hr.len
   have e7:=nY e1
   by_cases c:jx out (nth l i)<out.length∧(nth out (jx out (nth l i))).tags=(nth l i).tags
   · obtain⟨ck,ct⟩:=c
     have l3:=Z8 l i hi out (by omega) hso hsx H id es fa fb hr (jx out (nth l i)) ck
     have s1:=(hso _ (ai ck)).1
     have sm:=xM (nth out (jx out (nth l i))).tags (nth l i).tags (by omega)
     have t1:tn out (nth l i)=out.set (jx out (nth l i)) ⟨(nth l i).tags,EH (nth out (jx out (nth l i))).whr (nth l i).whr⟩:=by unfold tn;rw[if_pos ⟨ck,ct⟩]
     rw[t1]
     simp only[ct,decide_true]at sm
     generalize jx out (nth l i)=k at*
     have e3:=hr.el k ck
     have e4:=hr.ha k ck
     have mg:=hr.merge ck ⟨(nth l i).tags,EH (nth out k).whr (nth l i).whr⟩ ct (rW _ _ _)
     refine⟨.ref id 0 out.length,_,?_,.inr ⟨id,es,fa,fb,by rw[List.length_set],by rw[List.length_set];omega,mg⟩⟩
     generalize nth out k=y at*
     obtain⟨ta,wa⟩:=y
     simp only at ct
     subst ct
     generalize hx:nth l i=x at*
     obtain⟨tb,wb⟩:=x
     simp only at s1 sm e3 e4 cw l3 ⊢
     simp(disch:=omega)only[go_sem,K.ga,↓reduceIte,reduceAdd,reduceSub,l2,l3,hx,cw,sm,e1,e2,e3,e4]
   · have t1:tn out (nth l i)=out.take (jx out (nth l i))++[nth l i]++out.drop (jx out (nth l i)):=by unfold tn;rw[if_neg c]
     rw[t1]
     generalize jx out (nth l i)=k at*
     have hs1:fD 2 (es.take k)=true:=A8 fun e he=>hr.size e (List.mem_of_mem_take he)
     have hs2:fD 2 (es.drop k)=true:=A8 fun e he=>hr.size e (List.mem_of_mem_drop he)
     have hs3:(es.drop k).take (out.length-k)=es.drop k:=List.take_of_length_le (by simp[e2])
     have hs4:(es.take k).length=k:=by rw[List.length_take];omega
     have hs5:(es.drop k).length=out.length-k:=by rw[List.length_drop,e2]
     have hs6:k+(1+(out.length-k))=out.length+1:=by omega
     have s2:=hsx.1
     have run:gE false [1,4,5] H.length (exS aD K.ga ⟨[.t (.sl (l.map World.e)),.und,.ref id 0 out.length,I i,.und,.und],H⟩)=
      some ⟨[.t (.sl (l.map World.e)),.und,.ref H.length 0 (out.length+1),I (i+1),.und,.und],H++[.arr 2 false 0 (es.take k++[.agg [.ref (H.length+1) 0 (nth l i).tags.length,.ref (H.length+2) 0 (nth l i).whr.length]]++es.drop k),.arr 1 false 0 (ints (nth l i).tags),.arr 2 false 0 (whs (nth l i).whr),.arr 2 false 0 [.agg [.ref (H.length+1) 0 (nth l i).tags.length,.ref (H.length+2) 0 (nth l i).whr.length]]]⟩:=by
      by_cases ck:k<out.length
      · have s1:=(hso _ (ai ck)).1
        have sm:=xM (nth out k).tags (nth l i).tags (by omega)
        have ct:¬(nth out k).tags=(nth l i).tags:=fun h=>c ⟨ck,h⟩
        have e3:=hr.el k ck
        have e4:=hr.ha k ck
        generalize nth out k=y at*
        obtain⟨ta,wa⟩:=y
        generalize hx:nth l i=x at*
        obtain⟨tb,wb⟩:=x
        simp only at s1 s2 sm e3 e4 ct cw
        simp only[ct,decide_false]at sm
        simp(disch:=omega)only[go_sem,K.ga,↓reduceIte,reduceAdd,reduceSub,l2,hx,cw,sm,e1,e2,e3,e4,hs1,hs2,hs3,hs4,hs5,hs6,lx,mc,jW,pj,vU,Nat.add_assoc,Nat.sub_zero]
      · have ek:k=out.length:=by omega
        subst ek
        generalize hx:nth l i=x at*
        obtain⟨tb,wb⟩:=x
        simp only at s2 cw
        simp(disch:=omega)only[go_sem,K.ga,↓reduceIte,reduceAdd,reduceSub,l2,hx,cw,e1,e2,hs1,hs2,hs3,hs4,hs5,hs6,lx,mc,jW,pj,vU,Nat.add_assoc,Nat.sub_zero]
     exact⟨_,_,run,.inr ⟨H.length,_,_,_,by rw[aLv,aLv,List.length_take,List.length_drop,List.length_singleton,Nat.min_eq_left kl];congr 1;omega,by rw[aLv,aLv,List.length_singleton];omega,hr.ins kl (nth l i) _⟩⟩
theorem zg(out:List World)(x:World):(tn out x).length≤out.length+1∧out.length≤(tn out x).length∧1≤(tn out x).length:=by
 have kl:=FF out x
 unfold tn
 split
 · rename_i h
   rw[List.length_set];omega
 · rw[aLv,aLv,List.length_take,List.length_drop,List.length_singleton];omega
theorem H3(l:List World):∀j,(vh l j).length≤j
 | 0=>aLs _
 | j+1=>by
   have:=H3 l j
   have:=(zg (vh l j) (nth l j)).1
   simp only[vh];omega
theorem QP(a b:Wh):(qN a b).1.frm.length≤a.frm.length:=by
 unfold qN
 split
 · simp only[qn];omega
 · simp
theorem LO(a b:List Wh)(n:Nat)(h:∀w∈a,w.frm.length≤n):∀p,p≤a.length→∀w∈oC a b p,w.frm.length≤n
 | 0,_,w,hw=>h w hw
 | p+1,hp,w,hw=>by
   simp only[oC]at hw
   rcases aLk hw with hw | rfl
   · exact LO a b n h p (by omega) w hw
   · exact Nat.le_trans (QP _ _) (h _ (ai (by omega)))
theorem Uh{out:List World}{x:World}(ho:∀y∈out,y.sz)(hx:x.sz):∀y∈tn out x,y.sz:=by
 intro y hy
 unfold tn at hy
 split at hy
 · rename_i h
   rcases aLk hy with hy | rfl
   · exact ho y hy
   · obtain⟨s1,s2,s3⟩:=ho _ (ai h.1)
     refine⟨hx.1,?_,?_⟩
     · show(oC _ _ _).length≤_
       rw[rW];exact s2
     · exact LO _ _ _ s3 _ (Nat.min_le_left _ _)
 · rcases List.mem_append.1 hy with hy | hy
   · rcases List.mem_append.1 hy with hy | hy
     · exact ho y (List.mem_of_mem_take hy)
     · rw[List.mem_singleton.1 hy];exact hx
   · exact ho y (List.mem_of_mem_drop hy)
theorem LP{l:List World}(hl:∀x∈l,x.sz):∀j,j≤l.length→∀y∈vh l j,y.sz
 | 0,_,y,hy=>by simp[vh]at hy
 | j+1,h,y,hy=>Uh (LP hl j (by omega)) (hl _ (ai (by omega))) y hy
theorem Rp.frz{H:aq}{id:Nat}{es:List D}{fa fb:Nat→Nat}{out:List World}(hr:Rp H id es fa fb out):
 cD (frz H 8) es=some (out.map World.e)∧∀i∈es.flatMap (gT H 8),i≠id:=by
 have hl:=hr.len
 have key:∀(j:Nat) (hj:j<out.length),Go.Ev.frz H 8 (.agg [.ref (fa j) 0 (nth out j).tags.length,.ref (fb j) 0 (nth out j).whr.length])=some (nth out j).e∧
  gT H 8 (.agg [.ref (fa j) 0 (nth out j).tags.length,.ref (fb j) 0 (nth out j).whr.length])=[fa j,fb j]:=by
  intro j hj
  have h1:=hr.ha j hj
  have h2:=hr.hb j hj
  simp(disch:=omega)only[go_sem,h1,h2,ints,whs,↓reduceIte]
 constructor
 · have:∀(es:List D) (ts:List T),es.length=ts.length→(∀(j:Nat) e t,es[j]?=some e→ts[j]?=some t→Go.Ev.frz H 8 e=some t)→cD (Go.Ev.frz H 8) es=some ts:=by
    intro es
    induction es with
    | nil=>intro ts h _;cases ts with
      | nil=>rfl
      | cons=>simp at h
    | cons e es ih=>
      intro ts h hh
      cases ts with
      | nil=>simp at h
      | cons t ts=>
        have h1:=hh 0 e t rfl rfl
        have h2:=ih ts (by simpa using h) fun j e t he ht=>hh (j+1) e t (by simpa using he) (by simpa using ht)
        simp only[cD,h1,aLq,h2,aLw]
   refine this es _ (by rw[List.length_map,hl]) fun j e t he ht=>?_
   have hj:j<out.length:=by rw[← hl];exact(aLe.1 he).1
   rw[hr.el j hj]at he
   rw[b8 _ hj]at ht
   cases he;cases ht
   exact(key j hj).1
 · intro i hi
   obtain⟨e,he,hi⟩:=List.mem_flatMap.1 hi
   obtain⟨j,hj⟩:=aLf.1 he
   have hjl:j<out.length:=by rw[← hl];exact(aLe.1 hj).1
   rw[hr.el j hjl]at hj
   cases hj
   rw[(key j hjl).2]at hi
   simp only[List.mem_cons,List.not_mem_nil,or_false]at hi
   rcases hi with rfl | rfl
   · exact hr.na j hjl
   · exact hr.nb j hjl
theorem Z9(l:List World)(h0:1≤l.length)(hl:l.length≤100000)(hs:∀x∈l,x.sz):
 aD 1 N.jR [.t (.sl (l.map World.e))] []=some (.ref 0 0 (DK l).length,[.arr 2 false 0 (((DK l).map World.e).map .t)]):=by
 refine ao K.uK rfl ?_
 have loop:∀a b c:D,∃q,exS aD K.yS ⟨[.t (.sl (l.map World.e)),a,.nil,I 0,b,c],[]⟩=some q∧∃v H,q=(.exit 0,⟨[.t (.sl (l.map World.e)),.und,v,I l.length,.und,.und],H⟩)∧Rep H v (DK l):=by
  intro a b c
  refine zf (fun j st=>∃v H,st=⟨[.t (.sl (l.map World.e)),.und,v,I j,.und,.und],H⟩∧Rep H v (vh l j)) l.length _ ⟨.nil,[],rfl,.inl ⟨rfl,rfl⟩⟩ ?_ ?_
  · rintro j st hj ⟨v,H,rfl,hr⟩
    have ln:=H3 l j
    obtain⟨v',H',h1,h2⟩:=Np l j hj (by omega) (vh l j) (by omega) (LP hs j (by omega)) (hs _ (ai hj)) H v hr
    exact⟨_,h1,v',H',rfl,h2⟩
  · rintro st ⟨v,H,rfl,hr⟩
    refine⟨(.exit 0,⟨[.t (.sl (l.map World.e)),.und,v,I l.length,.und,.und],H⟩),?_,by simp,v,H,rfl,hr⟩
    simp(disch:=omega)only[go_sem,K.ga,↓reduceIte,reduceAdd,reduceSub]
 obtain⟨q,hq,v,H,rfl,hr⟩:=loop .nil .und .und
 have nz:1≤(DK l).length:=by
  unfold DK
  cases hn:l.length with
  | zero=>omega
  | succ n=>exact(zg _ _).2.2
 rcases hr with⟨rfl,he⟩ | ⟨id,es,fa,fb,rfl,h0,hr⟩
 · rw[he]at nz;simp at nz
 · obtain⟨f1,f2⟩:=hr.frz
   have fin:=JU H id 2 (DK l).length es _ hr.arr hr.len.symm f1 f2
   simp(disch:=omega)only[go_sem,K.jR,↓reduceIte,reduceAdd,reduceSub,hq,fin]
@[go_sem] theorem WQ {α β γ : Type} [Dat α] (f : β → γ) (g : α → β) {l : List α} {i j : Nat} {x : α} (h : j < l.length) : (((l.set i x).map g).map f)[j]? = some (f (g (nth (l.set i x) j))) := Fo f g (by rw [List.length_set]; exact h)
def Nq(l:List Int)(i j:Nat):List Int:=(l.set i (nth l j)).set j (nth l i)
def xX(i j:Nat)(t:Int)(x:World):World:=⟨Nq x.tags i j,(x.whr.set i (oL (nth x.whr i) t).1).set j (oL (nth x.whr j) t).1⟩
def C3(i j:Nat)(t:Int)(x:World)(out:List World):List World:=if Ug (nth x.whr i) (nth x.whr j) t=true then out++[xX i j t x]else out
def kh(i j:Nat)(t:Int)(ws:List World):Nat→List World
 | 0=>ws
 | k+1=>C3 i j t (nth ws k) (kh i j t ws k)
def pT(m:aB)(b:Bel)(i j t:Int):Bel×Int:=
 if qq m b=false then(b,6)else if i<0∨((nth b.av 0).tags.length:Int)≤i∨j<0∨((nth b.av 0).tags.length:Int)≤j∨i=j then(b,19)
 else if ¬inT t then(b,8)else if 24<(DK (kh i.toNat j.toNat t b.av b.av.length)).length then(b,44)else(⟨DK (kh i.toNat j.toNat t b.av b.av.length)⟩,0)
theorem QQ(i j:Nat)(t:Int)(x:World)(out:List World):out.length≤(C3 i j t x out).length∧(C3 i j t x out).length≤out.length+1:=by
 unfold C3;split<;>(try rw[aLv,List.length_singleton])<;>omega
theorem vY(i j:Nat)(t:Int)(ws:List World):∀k,ws.length≤(kh i j t ws k).length∧(kh i j t ws k).length≤ws.length+k
 | 0=>⟨aLs _,aLs _⟩
 | k+1=>by
   have h1:=vY i j t ws k
   have h2:=QQ i j t (nth ws k) (kh i j t ws k)
   simp only[kh];omega
abbrev exH(m:aB)(ws out:List World):aq:=[.box (ae m),.box [.t (.sl (ws.map World.e))],.box [.nil],.arr 2 false 0 ((out.map World.e).map .t)]
theorem Nr(m:aB)(ws:List World)(hw:ws.length≤100000)(i j:Nat)(hij:i≠j)(t:Int)(k:Nat)(hk:k<ws.length)(hs:(nth ws k).sz)
 (i1:i<(nth ws k).tags.length) (j1:j<(nth ws k).tags.length) (hl:(nth ws k).whr.length=(nth ws k).tags.length) (out:List World) (ho:out.length≤1000000):
 gE true [0,1,5,8,9,12] 4 (exS aD K.iM ⟨[.und,.und,I i,I j,I t,.und,.bp 1 0,.bp 2 0,.und,.und,.ref 3 0 out.length,I k,.und],exH m ws out⟩)=
  some ⟨[.und,.und,I i,I j,I t,.und,.bp 1 0,.bp 2 0,.und,.und,.ref 3 0 (C3 i j t (nth ws k) out).length,I (k+1),.und],exH m ws (C3 i j t (nth ws k) out)⟩:=by
 have c1:=mM (nth ws k) hs
 have mt:=Z4 (nth (nth ws k).whr i) (nth (nth ws k).whr j) t (hs.2.2 _ (ai (by omega)))
 have r1:=Lw (nth (nth ws k).whr i) t (hs.2.2 _ (ai (by omega)))
 have r2:=Lw (nth (nth ws k).whr j) t (hs.2.2 _ (ai (by omega)))
 unfold C3 xX Nq
 have n1:∀w,nth ((nth ws k).whr.set i w) j=nth (nth ws k).whr j:=fun w=>by rw[C2 _ _ (by omega),if_neg (fun e=>hij e.symm)]
 generalize hx:nth ws k=x at*
 obtain⟨tags,whr⟩:=x
 obtain⟨s1,s2,s3⟩:=hs
 simp only at*
 generalize hwi:nth whr i=wi at*
 generalize hwj:nth whr j=wj at*
 generalize oL wi t=ri at*
 obtain⟨⟨t1,f1⟩,e1⟩:=ri
 generalize oL wj t=rj at*
 obtain⟨⟨t2,f2⟩,e2⟩:=rj
 obtain⟨ti,fi⟩:=wi
 obtain⟨tj,fj⟩:=wj
 simp only at*
 cases hm:Ug ⟨ti,fi⟩ ⟨tj,fj⟩ t with
 | true=>
   rw[hm]at mt
   simp(disch:=omega)only[go_sem,K.iM,↓reduceIte,exH,hx,hwi,hwj,n1,c1,mt,r1,r2,reduceAdd,reduceSub]
 | false=>
   rw[hm]at mt
   simp(disch:=omega)only[go_sem,K.iM,↓reduceIte,exH,hx,hwi,hwj,n1,c1,mt,r1,r2,reduceAdd,reduceSub,aLt]
theorem vZ(w:Wh)(t:Int):(oL w t).1.frm=w.frm:=by unfold oL;split<;>rfl
theorem Ui{i j:Nat}{t:Int}{x:World}(h:x.sz)(hi:i<x.whr.length)(hj:j<x.whr.length):(xX i j t x).sz:=by
 obtain⟨s1,s2,s3⟩:=h
 refine⟨by simpa [xX,Nq]using s1,by simpa [xX]using s2,fun w hw=>?_⟩
 simp only[xX]at hw
 rcases aLk hw with hw | rfl
 · rcases aLk hw with hw | rfl
   · exact s3 w hw
   · rw[vZ];exact s3 _ (ai hi)
 · rw[vZ];exact s3 _ (ai hj)
theorem C4{ws:List World}(h:∀x∈ws,x.sz){i j:Nat}{t:Int}(hi:∀k,k<ws.length→i<(nth ws k).whr.length)(hj:∀k,k<ws.length→j<(nth ws k).whr.length):∀k,k≤ws.length→∀x∈kh i j t ws k,x.sz
 | 0,_,x,hx=>h x hx
 | k+1,hk,x,hx=>by
   simp only[kh,C3]at hx
   split at hx
   · rcases List.mem_append.1 hx with hx | hx
     · exact C4 h hi hj k (by omega) x hx
     · rw[List.mem_singleton.1 hx];exact Ui (h _ (ai (by omega))) (hi k (by omega)) (hj k (by omega))
   · exact C4 h hi hj k (by omega) x hx
theorem Ns{m:aB}(h:m.ok)(b:Bel)(hs:b.sz)(i j t:Int):
 aD 0 N.bF [.t m.e,.t b.e,I i,I j,I t] []=some (.tup [.t (pT m b i j t).1.e,I (pT m b i j t).2],[]):=by
 refine ao K.ow rfl ?_
 have cb:=vV b hs
 have cb1:=JY b hs
 have vb:=FB h b hs
 unfold pT
 cases hb:qq m b with
 | false=>
   rw[hb]at vb
   obtain⟨ws⟩:=b
   simp(disch:=omega)only[go_sem,K.bF,↓reduceIte,cb,vb,reduceAdd,reduceSub]
 | true=>
   rw[hb]at vb
   obtain⟨w1,w2,f1,f2,w5⟩:=iR hb
   obtain⟨ws⟩:=b
   obtain⟨s1,s2⟩:=hs
   simp only at s1 s2 w1 w2 w5 f1 f2 cb cb1 vb ⊢
   have g0:(ws.map World.e)[0]?=some (nth ws 0).e:=b8 _ (by omega)
   have wl:∀k,k<ws.length→(nth ws k).tags.length=(nth ws 0).tags.length∧(nth ws k).whr.length=(nth ws 0).tags.length:=fun k hk=>by
    obtain⟨q1,q2, -⟩:=kt (w5 k hk)
    exact⟨q1,q2⟩
   generalize hx:nth ws 0=x at*
   obtain⟨first,whr⟩:=x
   simp only at f1 f2 wl g0 ⊢
   rw[if_neg (by simp)]
   by_cases c1:i<0
   · rw[if_pos (by omega)]
     simp(disch:=omega)only[go_sem,K.bF,↓reduceIte,cb,vb,hx,g0,c1,reduceAdd,reduceSub]
   · by_cases c2:(first.length:Int)≤i
     · rw[if_pos (by omega)]
       simp(disch:=omega)only[go_sem,K.bF,↓reduceIte,cb,vb,hx,g0,c1,c2,reduceAdd,reduceSub]
     · by_cases c3:j<0
       · rw[if_pos (by omega)]
         simp(disch:=omega)only[go_sem,K.bF,↓reduceIte,cb,vb,hx,g0,c1,c2,c3,reduceAdd,reduceSub]
       · by_cases c4:(first.length:Int)≤j
         · rw[if_pos (by omega)]
           simp(disch:=omega)only[go_sem,K.bF,↓reduceIte,cb,vb,hx,g0,c1,c2,c3,c4,reduceAdd,reduceSub]
         · by_cases c5:i=j
           · rw[if_pos (by omega)]
             simp(disch:=omega)only[go_sem,K.bF,↓reduceIte,cb,vb,hx,g0,c1,c2,c3,c4,c5,reduceAdd,reduceSub]
           · rw[if_neg (by omega)]
             by_cases ct:inT t
             · have ct':=ct
               unfold inT at ct'
               rw[if_neg (fun h=>h ct)]
               obtain⟨i',rfl⟩:=Int.eq_ofNat_of_zero_le (show 0≤i by omega)
               obtain⟨j',rfl⟩:=Int.eq_ofNat_of_zero_le (show 0≤j by omega)
               simp only[Int.toNat_natCast]
               have ln:=vY i' j' t ws
               have loop:∀a b c d e f:D,exS aD K.rN ⟨[a,b,I i',I j',I t,c,.bp 1 0,.bp 2 0,d,e,.ref 3 0 ws.length,I 0,f],exH m ws ws⟩=
                some (.exit 0,⟨[.und,.und,I i',I j',I t,.und,.bp 1 0,.bp 2 0,.und,.und,.ref 3 0 (kh i' j' t ws ws.length).length,I ws.length,.und],exH m ws (kh i' j' t ws ws.length)⟩):=by
                intro a b c d e f
                refine bk (fun k=>⟨[.und,.und,I i',I j',I t,.und,.bp 1 0,.bp 2 0,.und,.und,.ref 3 0 (kh i' j' t ws k).length,I k,.und],exH m ws (kh i' j' t ws k)⟩) ws.length rfl ?_ ?_ (by simp)
                · intro k hk
                  obtain⟨q1,q2⟩:=wl k hk
                  have:=ln k
                  exact Nr m ws (by omega) i' j' (by omega) t k hk (s2 _ (ai hk)) (by omega) (by omega) (by omega) _ (by omega)
                · have:=ln ws.length
                  generalize kh i' j' t ws ws.length=L at*
                  simp(disch:=omega)only[go_sem,K.iM,↓reduceIte,exH,reduceAdd,reduceSub]
               have ln:=ln ws.length
               have sz:=C4 (t:=t) s2 (i:=i') (j:=j') (fun k hk=>by obtain⟨q1,q2⟩:=wl k hk;omega) (fun k hk=>by obtain⟨q1,q2⟩:=wl k hk;omega) ws.length (aLs _)
               have ty:=Z9 (kh i' j' t ws ws.length) (by omega) (by omega) sz
               generalize kh i' j' t ws ws.length=L at*
               generalize DK L=Z at*
               simp only[exH]at loop
               by_cases c6:24<Z.length
               · simp(disch:=omega)only[go_sem,K.bF,↓reduceIte,cb,cb1,vb,hx,g0,c1,c2,c3,c4,c5,c6,loop,ty,reduceAdd,reduceSub]
               · simp(disch:=omega)only[go_sem,K.bF,↓reduceIte,cb,cb1,vb,hx,g0,c1,c2,c3,c4,c5,c6,loop,ty,reduceAdd,reduceSub]
             · rw[if_pos ct]
               unfold inT at ct
               by_cases c6:t<0
               · simp(disch:=omega)only[go_sem,K.bF,↓reduceIte,cb,vb,hx,g0,c1,c2,c3,c4,c5,c6,reduceAdd,reduceSub]
               · simp(disch:=omega)only[go_sem,K.bF,↓reduceIte,cb,vb,hx,g0,c1,c2,c3,c4,c5,c6,reduceAdd,reduceSub]
def tu:Nat→List Int
 | 0=>[]
 | k+1=>tu k++[3+(k:Int)*2]
def aG.n5(d:aG)(n:Int):Nat→List Int×aG
 | 0=>([],d)
 | k+1=>((d.n5 n k).1++[((d.n5 n k).2.next n).1],((d.n5 n k).2.next n).2)
theorem mS:∀k,(tu k).length=k
 | 0=>rfl
 | k+1=>by simp[tu,mS k]
theorem aG.mh(d:aG)(n:Int):∀k,(d.n5 n k).1.length=k
 | 0=>rfl
 | k+1=>by simp[aG.n5,d.mh n k]
theorem aG.qu{d:aG}(h:d.dQ)(n:Int):∀k,(d.n5 n k).2.dQ
 | 0=>h
 | k+1=>aG.aZ (aG.qu h n k) n
structure BSt where
 b:Bel
 t:Int
 d:aG
def aG.mT(m:aB)(n:Int)(s:BSt):BSt:=
 let a:=s.d.next 60
 let c:=a.2.next 3
 if c.1=0 then
  let i:=c.2.next n
  let j:=i.2.next n
  let r:=pT m s.b i.1 j.1 (s.t+a.1)
  ⟨if r.2=0 then r.1 else s.b,s.t+a.1,j.2⟩
 else if c.1=1 then
  let g:=c.2.next n
  let l:=g.2.oW m.aa.length
  let e:=l.2.next 9
  let r:=vf m s.b (3+2*g.1) l.1 (s.t+a.1) (s.t+a.1+e.1)
  ⟨if r.2=0 then r.1 else s.b,s.t+a.1,e.2⟩
 else
  let g:=c.2.next n
  let l:=g.2.oW m.aa.length
  let e:=l.2.next 40
  let r:=vg m s.b (3+2*g.1) l.1 (s.t+a.1) (s.t+a.1+50) e.1
  ⟨if r.2=0 then r.1 else s.b,s.t+a.1,e.2⟩
def aG.Au(m:aB)(n:Int)(s:BSt):Nat→BSt
 | 0=>s
 | k+1=>aG.mT m n (aG.Au m n s k)
def aG.qV(d:aG):Nat:=(1+(d.next 3).1).toNat
def aG.oM(d:aG)(m:aB):List Int×aG:=(d.next 3).2.n5 m.aa.length d.qV
def aG.OH(d:aG)(m:aB):BSt:=⟨(vX m (tu d.qV) (d.oM m).1 ((d.oM m).2.next 100).1).1,100,(((d.oM m).2.next 100).2.next 5).2⟩
def aG.QS(d:aG)(m:aB):Nat:=(((d.oM m).2.next 100).2.next 5).1.toNat
def aG.ahX(d:aG)(m:aB):BSt:=aG.Au m d.qV (d.OH m) (d.QS m)
def aG.vi(d:aG)(m:aB):Bel×aG:=((d.ahX m).b,(d.ahX m).d)
structure WOk(m:aB)(N:Nat)(x:World):Prop where
 tg:x.tags.length=N
 wh:x.whr.length=N
 fr:∀w∈x.whr,w.frm.length=m.aa.length
 ti:∀w∈x.whr,inT w.time
structure BOk(m:aB)(N:Nat)(b:Bel):Prop where
 w1:1≤b.av.length
 w2:b.av.length≤24
 n1:1≤N
 n2:N≤12
 ws:∀x∈b.av,WOk m N x
theorem WOk.sz{m:aB}{N:Nat}{x:World}(h:WOk m N x)(hm:m.ok)(hn:N≤12):x.sz:=by
 have np:=hm.np
 obtain⟨t1,t2,t3, -⟩:=h
 exact⟨by omega,by omega,fun w hw=>by rw[t3 w hw];omega⟩
theorem BOk.sz{m:aB}{N:Nat}{b:Bel}(h:BOk m N b)(hm:m.ok):b.sz:=
 ⟨by have:=h.w2;omega,fun x hx=>(h.ws x hx).sz hm h.n2⟩
theorem FH{m:aB}{n:Int}{s:BSt}(h:s.d.dQ):(aG.mT m n s).d.dQ:=by
 unfold aG.mT
 simp only
 have l1:=aG.aZ h 60
 generalize s.d.next 60=a at*
 obtain⟨a1,d1⟩:=a
 simp only at l1 ⊢
 have l2:=aG.aZ l1 3
 generalize d1.next 3=c at*
 obtain⟨c1,d2⟩:=c
 simp only at l2 ⊢
 split
 · exact aG.aZ (aG.aZ l2 n) n
 · split
   · exact aG.aZ (aG.nD (aG.aZ l2 n) _) 9
   · exact aG.aZ (aG.nD (aG.aZ l2 n) _) 40
abbrev blH(m:aB)(p1 p2:Bool)(tags cq:List Int)(s:BSt):aq:=[s.d.obj,.box (ae m),.box [.nil],.arr 1 p1 0 (ints tags),.arr 1 p2 0 (ints cq),.box [.t (.sl (s.b.av.map World.e))]]
theorem QT{m:aB}(hm:m.ok)(n:Int)(n1:1≤n)(n2:n≤12)(tags cq:List Int)(s:BSt)(hd:s.d.dQ)(hb:s.b.sz)(ht:0≤s.t)(ht2:s.t≤1000000)(k:Nat)(hk:k≤100)(p1 p2:Bool):
 gE true [1,5,6,7,11,12,13,14,15,16,17] 6 (exS aD K.bK ⟨[.bp 0 0,.und,.bp 1 0,.bp 2 0,I n,.und,.und,.und,.bp 5 0,I s.t,I (k+1),.und,.und,.und,.und,.und,.und,.und],blH m p1 p2 tags cq s⟩)=
 some ⟨[.bp 0 0,.und,.bp 1 0,.bp 2 0,I n,.und,.und,.und,.bp 5 0,I (aG.mT m n s).t,I k,.und,.und,.und,.und,.und,.und,.und],blH m p1 p2 tags cq (aG.mT m n s)⟩:=by
 obtain⟨b,t,d⟩:=s
 simp only at hd hb ht ht2
 unfold aG.mT
 simp only
 have np:=hm.np
 have h1:=iX d 60 (by omega) hd
 have l1:=aG.aZ hd 60
 have a0:=d.fA 60
 have a9:=d.fB (n:=60) (by omega)
 generalize d.next 60=a at*
 obtain⟨x1,d1⟩:=a
 simp only at h1 l1 a0 a9 ⊢
 have h2:=iX d1 3 (by omega) l1
 have l2:=aG.aZ l1 3
 have c0:=d1.fA 3
 have c9:=d1.fB (n:=3) (by omega)
 generalize d1.next 3=c at*
 obtain⟨x2,d2⟩:=c
 simp only at h2 l2 c0 c9 ⊢
 have h3:=iX d2 n (by omega) l2
 have l3:=aG.aZ l2 n
 have g0:=d2.fA n
 have g9:=d2.fB (n:=n) n1
 generalize d2.next n=g at*
 obtain⟨x3,d3⟩:=g
 simp only at h3 l3 g0 g9 ⊢
 by_cases e0:x2=0
 · simp only[if_pos e0]
   have h4:=iX d3 n (by omega) l3
   generalize d3.next n=g at*
   obtain⟨x4,d4⟩:=g
   simp only at h4 ⊢
   have ex:=Ns hm b hb x3 x4 (t+x1)
   generalize pT m b x3 x4 (t+x1)=r at*
   obtain⟨⟨ws'⟩,er⟩:=r
   obtain⟨ws⟩:=b
   simp only at ex ⊢
   subst e0
   by_cases e:er=0
   · simp(disch:=omega)only[go_sem,K.bK,↓reduceIte,blH,h1,h2,h3,h4,ex,e,reduceAdd,reduceSub]
   · simp(disch:=omega)only[go_sem,K.bK,↓reduceIte,blH,h1,h2,h3,h4,ex,e,reduceAdd,reduceSub]
 · simp only[if_neg e0]
   have h4:=PW d3 m.aa.length (by omega) l3
   have l4:=aG.nD l3 m.aa.length
   have ln:=d3.yW m.aa.length
   generalize d3.oW m.aa.length=q at*
   obtain⟨l,d4⟩:=q
   simp only at h4 l4 ln ⊢
   by_cases e1:x2=1
   · simp only[if_pos e1]
     have h5:=iX d4 9 (by omega) l4
     have f0:=d4.fA 9
     have f9:=d4.fB (n:=9) (by omega)
     generalize d4.next 9=g at*
     obtain⟨x5,d5⟩:=g
     simp only at h5 f0 f9 ⊢
     have ex:=QL hm b hb (3+2*x3) l (by omega) (t+x1) (t+x1+x5)
     generalize vf m b (3+2*x3) l (t+x1) (t+x1+x5)=r at*
     obtain⟨⟨ws'⟩,er⟩:=r
     obtain⟨ws⟩:=b
     simp only at ex ⊢
     subst e1
     by_cases e:er=0
     · simp(disch:=omega)only[go_sem,K.bK,↓reduceIte,blH,h1,h2,h3,h4,h5,ex,e,reduceAdd,reduceSub]
     · simp(disch:=omega)only[go_sem,K.bK,↓reduceIte,blH,h1,h2,h3,h4,h5,ex,e,reduceAdd,reduceSub]
   · simp only[if_neg e1]
     have h5:=iX d4 40 (by omega) l4
     have f0:=d4.fA 40
     have f9:=d4.fB (n:=40) (by omega)
     generalize d4.next 40=g at*
     obtain⟨x5,d5⟩:=g
     simp only at h5 f0 f9 ⊢
     have ex:=QN hm b hb (3+2*x3) l (by omega) (t+x1) (t+x1+50) x5
     generalize vg m b (3+2*x3) l (t+x1) (t+x1+50) x5=r at*
     obtain⟨⟨ws'⟩,er⟩:=r
     obtain⟨ws⟩:=b
     simp only at ex ⊢
     by_cases e:er=0
     · simp(disch:=omega)only[go_sem,K.bK,↓reduceIte,blH,h1,h2,h3,h4,h5,ex,e,e0,e1,reduceAdd,reduceSub]
     · simp(disch:=omega)only[go_sem,K.bK,↓reduceIte,blH,h1,h2,h3,h4,h5,ex,e,e0,e1,reduceAdd,reduceSub]
theorem H4{m:aB}(hm:m.ok){p t:Int}(p0:0≤p)(p1:p<m.aa.length)(ht:inT t):(iP m p t).2=0∧(iP m p t).1.frm.length=m.aa.length:=by
 unfold iP
 rw[if_neg (by omega),if_pos ht]
 refine⟨rfl,?_⟩
 exact mb hm t ht none (fun l h=>by cases h) (by simp) (Ai (Aj _) ht.1 (by have:=ht.2;omega))
theorem QU{m:aB}{p t:Int}(ht:inT t):inT (iP m p t).1.time:=by
 unfold iP
 split
 · unfold inT;simp
 · exact ht
theorem aaa{m:aB}(w:Wh)(l:List Int)(a b:Int)(hw:inT w.time):inT (DJ m w l a b).1.time:=by
 unfold DJ
 split
 · exact hw
 · rename_i h
   have h0:mJ m w l a b=0:=by simpa using h
   obtain⟨v1,v2,v3,v4,v5,v6⟩:=oX h0
   split
   · exact hw
   · split
     · exact v5
     · exact hw
theorem aab{m:aB}(w:Wh)(l:List Int)(a b bl:Int)(hw:inT w.time):inT (Eu m w l a b bl).1.time:=by
 unfold Eu
 split
 · exact hw
 · rename_i h
   have h0:mJ m w l a b=0:=by simpa using h
   obtain⟨v1,v2,v3,v4,v5,v6⟩:=oX h0
   split
   · exact hw
   · split
     · exact hw
     · split
       · exact hw
       · exact v5
theorem Uj{a b:Wh}(ha:inT a.time)(hb:inT b.time):inT (qN a b).1.time:=by
 unfold qN
 split
 · unfold inT at *;simp only;omega
 · unfold inT;simp
theorem H5{w:Wh}{t:Int}(h:inT w.time):inT (oL w t).1.time:=by
 unfold oL
 split
 · exact h
 · unfold inT at *;simp only;omega
theorem LQ(a b:List Wh)(ha:∀w∈a,inT w.time)(hb:∀w∈b,inT w.time):∀p,p≤a.length→p≤b.length→∀w∈oC a b p,inT w.time
 | 0,_,_,w,hw=>ha w hw
 | p+1,h1,h2,w,hw=>by
   simp only[oC]at hw
   rcases aLk hw with hw | rfl
   · exact LQ a b ha hb p (by omega) (by omega) w hw
   · exact Uj (ha _ (ai (by omega))) (hb _ (ai (by omega)))
theorem Uk{m:aB}(hm:m.ok)(w:Wh)(l:List Int)(a b:Int)(hw:w.frm.length=m.aa.length):(DJ m w l a b).1.frm.length=m.aa.length:=by
 unfold DJ
 split
 · exact hw
 · rename_i h
   have h0:mJ m w l a b=0:=by simpa using h
   obtain⟨v1,v2,v3,v4,v5,v6⟩:=oX h0
   obtain⟨w1,w2,w3,w4⟩:=eZ v1
   have hb:bnd w.frm:=fun x hx=>nE (w3 x hx)
   split
   · exact hw
   · split
     · refine mb hm a v4 none (fun l h=>by cases h) (sR _ _ _ _ _) (Fw hb _ _ ?_ _ (aLs _))
       intro p hp
       obtain⟨j,hj⟩:=aLf.1 hp
       have hjl:=(aLe.1 hj).1
       obtain⟨q1,q2, -⟩:=sQ v3 hjl
       rw[bC hj]at q1 q2
       omega
     · exact hw
theorem Ul{m:aB}(hm:m.ok)(w:Wh)(l:List Int)(a b bl:Int)(hw:w.frm.length=m.aa.length):(Eu m w l a b bl).1.frm.length=m.aa.length:=by
 unfold Eu
 split
 · exact hw
 · rename_i h
   have h0:mJ m w l a b=0:=by simpa using h
   obtain⟨v1,v2,v3,v4,v5,v6⟩:=oX h0
   obtain⟨w1,w2,w3,w4⟩:=eZ v1
   have hb:bnd w.frm:=fun x hx=>nE (w3 x hx)
   split
   · exact hw
   · split
     · exact hw
     · split
       · exact hw
       · rename_i h1 h2 h3
         have hlen:=i9 v3
         have np:=hm.np
         have h1:inT bl:=by simpa using h1
         unfold inT at v4 v5 w2 h1
         have t1:inT (b-bl):=by unfold inT;omega
         have hi:∀s,some l=some s→s≠[]∧s.length≤64:=by
          intro s hs;cases hs;exact⟨v2,by omega⟩
         have ln:=y5 w.frm l l.length
         have lb:=Fx hb l l.length
         exact mb hm b v5 none (fun l h=>by cases h) (mb hm _ t1 _ hi (by omega) lb) (Et hm _ t1 _ hi (by omega) lb)
theorem QV{m:aB}{N:Nat}{tag:Int}{x:World}{w:Wh}(hx:WOk m N x)(hw:w.frm.length=m.aa.length)(hw2:inT w.time):WOk m N (J7 tag x w):=by
 obtain⟨t1,t2,t3,t4⟩:=hx
 refine⟨t1,by simpa [J7]using t2,fun y hy=>?_,fun y hy=>?_⟩
 · simp only[J7]at hy
   rcases aLk hy with hy | rfl
   · exact t3 y hy
   · exact hw
 · simp only[J7]at hy
   rcases aLk hy with hy | rfl
   · exact t4 y hy
   · exact hw2
theorem Kb{m:aB}(hm:m.ok){N:Nat}{b:Bel}(hb:BOk m N b)(tag:Int)(l:List Int)(a c:Int):BOk m N (if(vf m b tag l a c).2=0 then(vf m b tag l a c).1 else b):=by
 split
 · rename_i h0
   unfold vf at h0 ⊢
   by_cases e0:pR m b tag=0
   · simp only[e0,ne_eq,not_true_eq_false,if_false]at h0 ⊢
     obtain⟨_,bb⟩:=J9 e0
     cases hf:(List.range b.av.length).find? (HW m tag l a c b.av)with
     | some i=>simp only[hf];exact hb
     | none=>
       simp only[hf]at h0 ⊢
       split at h0
       · simp at h0
       · rename_i hl
         rw[if_neg hl]
         have ln:=zd m tag l a c b.av b.av.length
         refine⟨by simp only;omega,by have:=hb.w2;simp only;omega,hb.n1,hb.n2,?_⟩
         have key:∀j,j≤b.av.length→∀x∈pS m tag l a c b.av j,WOk m N x:=by
          intro j
          induction j with
          | zero=>intro _ x hx;simp[pS]at hx
          | succ j ih=>
            intro hj x hx
            have wj:=hb.ws _ (ai (l:=b.av) (j:=j) (by omega))
            obtain⟨b1,b2⟩:=bb j (by omega)
            simp only[pS,HU]at hx
            split at hx
            · exact ih (by omega) x hx
            · rcases List.mem_append.1 hx with hx | hx
              · exact ih (by omega) x hx
              · rw[List.mem_singleton.1 hx]
                split
                · exact QV wj (Uk hm _ l a c (wj.fr _ (ai (by omega)))) (aaa _ l a c (wj.ti _ (ai (by omega))))
                · exact wj
         exact key _ (aLs _)
   · rw[if_pos e0]at h0 ⊢
     exact hb
 · exact hb
theorem Kc{m:aB}(hm:m.ok){N:Nat}{b:Bel}(hb:BOk m N b)(tag:Int)(l:List Int)(a c bl:Int):BOk m N (if(vg m b tag l a c bl).2=0 then(vg m b tag l a c bl).1 else b):=by
 split
 · rename_i h0
   unfold vg at h0 ⊢
   by_cases e0:pR m b tag=0
   · simp only[e0,ne_eq,not_true_eq_false,if_false]at h0 ⊢
     obtain⟨_,bb⟩:=J9 e0
     cases hf:(List.range b.av.length).find? (HY m tag l a c bl b.av)with
     | some i=>simp only[hf];exact hb
     | none=>
       simp only[hf]
       have ln:=ze m tag l a c bl b.av b.av.length
       refine⟨by have:=hb.w1;simp only;omega,by have:=hb.w2;simp only;omega,hb.n1,hb.n2,?_⟩
       have key:∀j,j≤b.av.length→∀x∈rV m tag l a c bl b.av j,WOk m N x:=by
        intro j
        induction j with
        | zero=>intro _ x hx;simp[rV]at hx
        | succ j ih=>
          intro hj x hx
          have wj:=hb.ws _ (ai (l:=b.av) (j:=j) (by omega))
          obtain⟨b1,b2⟩:=bb j (by omega)
          simp only[rV,J8]at hx
          rcases List.mem_append.1 hx with hx | hx
          · exact ih (by omega) x hx
          · rw[List.mem_singleton.1 hx]
            split
            · exact QV wj (Ul hm _ l a c bl (wj.fr _ (ai (by omega)))) (aab _ l a c bl (wj.ti _ (ai (by omega))))
            · exact wj
       exact key _ (aLs _)
   · rw[if_pos e0]at h0 ⊢
     exact hb
 · exact hb
theorem QW{m:aB}{a b:Wh}(ha:a.frm.length=m.aa.length)(hb:b.frm.length=m.aa.length):(qN a b).1.frm.length=m.aa.length:=by
 unfold qN
 rw[if_pos (by omega)]
 simp only[qn];exact ha
theorem LR{m:aB}(a b:List Wh)(ha:∀w∈a,w.frm.length=m.aa.length)(hb:∀w∈b,w.frm.length=m.aa.length):∀p,p≤a.length→p≤b.length→∀w∈oC a b p,w.frm.length=m.aa.length
 | 0,_,_,w,hw=>ha w hw
 | p+1,h1,h2,w,hw=>by
   simp only[oC]at hw
   rcases aLk hw with hw | rfl
   · exact LR a b ha hb p (by omega) (by omega) w hw
   · exact QW (ha _ (ai (by omega))) (hb _ (ai (by omega)))
theorem Nt{m:aB}{N:Nat}{out:List World}{x:World}(ho:∀y∈out,WOk m N y)(hx:WOk m N x):∀y∈tn out x,WOk m N y:=by
 intro y hy
 unfold tn at hy
 split at hy
 · rename_i h
   rcases aLk hy with hy | rfl
   · exact ho y hy
   · obtain⟨s1,s2,s3,s4⟩:=ho _ (ai h.1)
     refine⟨hx.tg,?_,LR _ _ s3 hx.fr _ (Nat.min_le_left _ _) (Nat.min_le_right _ _),LQ _ _ s4 hx.ti _ (Nat.min_le_left _ _) (Nat.min_le_right _ _)⟩
     show(oC _ _ _).length=_
     rw[rW];exact s2
 · rcases List.mem_append.1 hy with hy | hy
   · rcases List.mem_append.1 hy with hy | hy
     · exact ho y (List.mem_of_mem_take hy)
     · rw[List.mem_singleton.1 hy];exact hx
   · exact ho y (List.mem_of_mem_drop hy)
theorem EI{m:aB}{N:Nat}{l:List World}(hl:∀x∈l,WOk m N x):∀j,j≤l.length→∀y∈vh l j,WOk m N y
 | 0,_,y,hy=>by simp[vh]at hy
 | j+1,h,y,hy=>Nt (EI hl j (by omega)) (hl _ (ai (by omega))) y hy
theorem Nu{m:aB}{N:Nat}{i j:Nat}{t:Int}{x:World}(h:WOk m N x)(hi:i<N)(hj:j<N):WOk m N (xX i j t x):=by
 obtain⟨s1,s2,s3,s4⟩:=h
 refine⟨by simpa [xX,Nq]using s1,by simpa [xX]using s2,fun w hw=>?_,fun w hw=>?_⟩
 · simp only[xX]at hw
   rcases aLk hw with hw | rfl
   · rcases aLk hw with hw | rfl
     · exact s3 w hw
     · rw[vZ];exact s3 _ (ai (by omega))
   · rw[vZ];exact s3 _ (ai (by omega))
 · simp only[xX]at hw
   rcases aLk hw with hw | rfl
   · rcases aLk hw with hw | rfl
     · exact s4 w hw
     · exact H5 (s4 _ (ai (by omega)))
   · exact H5 (s4 _ (ai (by omega)))
theorem xY{m:aB}{N:Nat}{ws:List World}(h:∀x∈ws,WOk m N x){i j:Nat}{t:Int}(hi:i<N)(hj:j<N):∀k,k≤ws.length→∀x∈kh i j t ws k,WOk m N x
 | 0,_,x,hx=>h x hx
 | k+1,hk,x,hx=>by
   simp only[kh,C3]at hx
   split at hx
   · rcases List.mem_append.1 hx with hx | hx
     · exact xY h hi hj k (by omega) x hx
     · rw[List.mem_singleton.1 hx];exact Nu (h _ (ai (by omega))) hi hj
   · exact xY h hi hj k (by omega) x hx
theorem H6{m:aB}{N:Nat}{b:Bel}(hb:BOk m N b)(i j t:Int):BOk m N (if(pT m b i j t).2=0 then(pT m b i j t).1 else b):=by
 split
 · rename_i h0
   unfold pT at h0 ⊢
   split at h0
   · simp at h0
   · rename_i c1
     rw[if_neg c1]
     split at h0
     · simp at h0
     · rename_i c2
       rw[if_neg c2]
       split at h0
       · simp at h0
       · rename_i c3
         rw[if_neg c3]
         split at h0
         · simp at h0
         · rename_i c4
           rw[if_neg c4]
           have t0:=(hb.ws _ (ai (l:=b.av) (j:=0) (by have:=hb.w1;omega))).tg
           have ln:=vY i.toNat j.toNat t b.av b.av.length
           have w1:=hb.w1
           refine⟨?_,by simp only;omega,hb.n1,hb.n2,?_⟩
           · simp only[DK]
             cases hn:(kh i.toNat j.toNat t b.av b.av.length).length with
             | zero=>omega
             | succ n=>exact(zg _ _).2.2
           · exact EI (xY hb.ws (by omega) (by omega) _ (aLs _)) _ (aLs _)
 · exact hb
theorem H7{m:aB}(hm:m.ok){N:Nat}{n:Int}{s:BSt}(hb:BOk m N s.b):BOk m N (aG.mT m n s).b:=by
 unfold aG.mT
 simp only
 split
 · exact H6 hb _ _ _
 · split
   · exact Kb hm hb _ _ _ _
   · exact Kc hm hb _ _ _ _ _
theorem H8{m:aB}{n:Int}{s:BSt}:s.t≤(aG.mT m n s).t∧(aG.mT m n s).t≤s.t+60:=by
 have h1:=s.d.fA 60
 have h2:=s.d.fB (n:=60) (by omega)
 unfold aG.mT
 simp only
 split
 · simp only;omega
 · split<;>(simp only;omega)
theorem C5{m:aB}(hm:m.ok){N:Nat}{n:Int}{s:BSt}(hb:BOk m N s.b)(hd:s.d.dQ)(ht:s.t=100):∀k,BOk m N (aG.Au m n s k).b∧(aG.Au m n s k).d.dQ∧100≤(aG.Au m n s k).t∧(aG.Au m n s k).t≤100+60*k
 | 0=>⟨hb,hd,by simp[aG.Au,ht],by simp[aG.Au,ht]⟩
 | k+1=>by
   obtain⟨h1,h2,h3,h4⟩:=C5 hm hb hd ht k
   have ht:=H8 (m:=m) (n:=n) (s:=aG.Au m n s k)
   exact⟨H7 hm h1,FH h2,by simp only[aG.Au];omega,by simp only[aG.Au];omega⟩
theorem A9{n:Nat}(h:n≤3):iG (tu n)=true:=by
 match n,h with
 | 0,_=>decide
 | 1,_=>decide
 | 2,_=>decide
 | 3,_=>decide
theorem vj(d:aG){n:Int}(hn:1≤n):∀k,∀x∈(d.n5 n k).1,0≤x∧x<n
 | 0,x,hx=>by simp[aG.n5]at hx
 | k+1,x,hx=>by
   simp only[aG.n5,List.mem_append,List.mem_singleton]at hx
   rcases hx with hx | rfl
   · exact vj d hn k x hx
   · exact⟨aG.fA _ _,aG.fB _ hn⟩
theorem C6(d:aG):1≤d.qV∧d.qV≤3:=by
 have h1:=d.fA 3
 have h2:=d.fB (n:=3) (by omega)
 unfold aG.qV;omega
theorem FI{m:aB}(hm:m.ok)(h1:1≤m.aa.length)(d:aG):
 (vX m (tu d.qV) (d.oM m).1 ((d.oM m).2.next 100).1)=(⟨[⟨tu d.qV,jw m (d.oM m).1 ((d.oM m).2.next 100).1 (tu d.qV).length⟩]⟩,0):=by
 have pb:=C6 d
 have tl:=mS d.qV
 have sl:(d.oM m).1.length=d.qV:=aG.mh _ _ _
 have t0:=(d.oM m).2.fA 100
 have t9:=(d.oM m).2.fB (n:=100) (by omega)
 have np:=hm.np
 unfold vX
 rw[if_pos (by omega),if_pos (A9 (by omega))]
 have:(List.range (tu d.qV).length).find? (fun i=> !decide ((iP m (nth (d.oM m).1 i) ((d.oM m).2.next 100).1).2=0))=none:=by
  rw[List.find?_eq_none]
  intro i hi
  have hi:i<(d.oM m).1.length:=by rw[sl,←tl];exact aLu.1 hi
  have:=vj (d.next 3).2 (n:=m.aa.length) (by omega) d.qV _ (ai hi)
  have:=(H4 hm this.1 this.2 (t:=((d.oM m).2.next 100).1) ⟨by omega,by omega⟩).1
  have e:(iP m (nth (d.oM m).1 i) ((d.oM m).2.next 100).1).2=0:=this
  simp[e]
 rw[this]
theorem H9{m:aB}(hm:m.ok)(h1:1≤m.aa.length)(d:aG):BOk m d.qV (d.OH m).b:=by
 have pb:=C6 d
 have tl:=mS d.qV
 have sl:(d.oM m).1.length=d.qV:=aG.mh _ _ _
 have t0:=(d.oM m).2.fA 100
 have t9:=(d.oM m).2.fB (n:=100) (by omega)
 have np:=hm.np
 unfold aG.OH
 rw[FI hm h1]
 refine⟨by simp,by simp,by omega,by omega,fun x hx=>?_⟩
 rw[List.mem_singleton.1 hx]
 refine⟨tl,by simp[tl],fun w hw=>?_,fun w hw=>by
  simp only[jw,List.mem_map,aLu]at hw
  obtain⟨i,hi,rfl⟩:=hw
  exact QU ⟨by omega,by omega⟩⟩
 simp only[jw,List.mem_map,aLu]at hw
 obtain⟨i,hi,rfl⟩:=hw
 have hi:i<(d.oM m).1.length:=by rw[sl,←tl];exact hi
 have:=vj (d.next 3).2 (n:=m.aa.length) (by omega) d.qV _ (ai hi)
 exact(H4 hm this.1 this.2 ⟨by omega,by omega⟩).2
theorem QX{m:aB}(hm:m.ok)(h1:1≤m.aa.length){d:aG}(hd:d.dQ):BOk m d.qV (d.vi m).1∧(d.vi m).2.dQ:=by
 have l0:(d.OH m).d.dQ:=aG.aZ (aG.aZ (aG.qu (aG.aZ hd 3) _ _) _) _
 obtain⟨h1,h2, -⟩:=C5 hm (H9 hm h1 d) l0 rfl (n:=d.qV) (d.QS m)
 exact⟨h1,h2⟩
theorem QY{m:aB}(hm:m.ok)(d:aG)(hd:d.dQ)(n:Nat)(hn:n≤12)(a b c e f g h i j k:D):
 exS aD K.pB ⟨[.bp 0 0,a,.bp 1 0,.bp 2 0,I n,.ref 3 0 0,.ref 4 0 0,I 0,b,c,e,f,g,h,i,j,k,.und],[d.obj,.box (ae m),.box [.nil],.arr 1 false 0 [],.arr 1 false 0 []]⟩=
 some (.exit 0,⟨[.bp 0 0,.und,.bp 1 0,.bp 2 0,I n,.ref 3 0 n,.ref 4 0 n,I n,.und,.und,.und,.und,.und,.und,.und,.und,.und,.und],[(d.n5 m.aa.length n).2.obj,.box (ae m),.box [.nil],.arr 1 false 0 (ints (tu n)),.arr 1 false 0 (ints (d.n5 m.aa.length n).1)]⟩):=by
 refine bk (fun k=>⟨[.bp 0 0,.und,.bp 1 0,.bp 2 0,I n,.ref 3 0 k,.ref 4 0 k,I k,.und,.und,.und,.und,.und,.und,.und,.und,.und,.und],[(d.n5 m.aa.length k).2.obj,.box (ae m),.box [.nil],.arr 1 false 0 (ints (tu k)),.arr 1 false 0 (ints (d.n5 m.aa.length k).1)]⟩) n rfl ?_ ?_ (by simp)
 · intro j hj
   have np:=hm.np
   have tl:=mS j
   have sl:=d.mh m.aa.length j
   have lt:=aG.qu hd m.aa.length j
   simp only[tu,aG.n5]
   generalize tu j=ts at*
   generalize d.n5 m.aa.length j=s at*
   obtain⟨ss,d1⟩:=s
   simp only at sl lt ⊢
   have h1:=iX d1 m.aa.length (by omega) lt
   generalize d1.next m.aa.length=r at*
   obtain⟨x,d2⟩:=r
   simp only at h1 ⊢
   simp(disch:=omega)only[go_sem,K.kM,↓reduceIte,ints,h1,reduceAdd,reduceSub]
 · have tl:=mS n
   have sl:=d.mh m.aa.length n
   simp(disch:=omega)only[go_sem,K.kM,↓reduceIte,ints,reduceAdd,reduceSub]
theorem QZ{m:aB}(hm:m.ok){N:Nat}(n:Int)(n1:1≤n)(n2:n≤12)(tags cq:List Int)(s:BSt)(hd:s.d.dQ)(hb:BOk m N s.b)(ht:s.t=100)(p1 p2:Bool)(kk:Nat)(hK:kk≤100):
 nW true [1,5,6,7,11,12,13,14,15,16,17] (exS aD K.bK) ⟨[.bp 0 0,.und,.bp 1 0,.bp 2 0,I n,.und,.und,.und,.bp 5 0,I s.t,I kk,.und,.und,.und,.und,.und,.und,.und],blH m p1 p2 tags cq s⟩=
 some (.exit 2,⟨[.bp 0 0,.und,.bp 1 0,.bp 2 0,I n,.und,.und,.und,.bp 5 0,I (aG.Au m n s kk).t,I 0,.und,.und,.und,.und,.und,.und,.und],blH m p1 p2 tags cq (aG.Au m n s kk)⟩):=by
 have key:=BM (gc:=true) (dead:=[1,5,6,7,11,12,13,14,15,16,17]) (body:=exS aD K.bK)
  (fun k=>⟨[.bp 0 0,.und,.bp 1 0,.bp 2 0,I n,.und,.und,.und,.bp 5 0,I (aG.Au m n s k).t,I ((kk-k:Nat):Int),.und,.und,.und,.und,.und,.und,.und],blH m p1 p2 tags cq (aG.Au m n s k)⟩)
  (p:=(.exit 2,⟨[.bp 0 0,.und,.bp 1 0,.bp 2 0,I n,.und,.und,.und,.bp 5 0,I (aG.Au m n s kk).t,I 0,.und,.und,.und,.und,.und,.und,.und],blH m p1 p2 tags cq (aG.Au m n s kk)⟩)) kk ?_ ?_
 · exact key
 · intro k hk
   obtain⟨g1,g2,g3,g4⟩:=C5 hm (n:=n) hb hd ht k
   have:=QT hm n n1 n2 tags cq (aG.Au m n s k) g2 (g1.sz hm) (by omega) (by omega) (kk-(k+1)) (by omega) p1 p2
   rw[show(((kk-(k+1):Nat):Int)+1)=((kk-k:Nat):Int)by omega]at this
   exact this
 · refine eD ?_ (by simp)
   simp only[Nat.sub_self]
   simp(disch:=omega)only[go_sem,K.bK,↓reduceIte,blH,reduceAdd,reduceSub]
theorem Q0{m:aB}(hm:m.ok)(h1:1≤m.aa.length)(d:aG)(hd:d.dQ):aD 0 N.cZ [.bp 0 0,.t m.e] [d.obj]=some (.t (d.vi m).1.e,[(d.vi m).2.obj]):=by
 refine ao K.mD rfl ?_
 have np:=hm.np
 have pb:=C6 d
 have eP:(d.qV:Int)=1+(d.next 3).1:=by have:=d.fA 3;unfold aG.qV;omega
 have g0:=H9 hm h1 d
 have e0:=FI hm h1 d
 have a1:=iX d 3 (by omega) hd
 have l1:=aG.aZ hd 3
 have q1:=fun a b c e f g h i j k=>QY hm (d.next 3).2 l1 d.qV (by omega) a b c e f g h i j k
 have eS:(d.next 3).2.n5 m.aa.length d.qV=d.oM m:=rfl
 rw[eS]at q1
 have lS:(d.oM m).2.dQ:=aG.qu l1 _ _
 have a2:=iX (d.oM m).2 100 (by omega) lS
 have l2:=aG.aZ lS 100
 have a3:=iX ((d.oM m).2.next 100).2 5 (by omega) l2
 have l3:=aG.aZ l2 5
 have k0:=((d.oM m).2.next 100).2.fA 5
 have k9:=((d.oM m).2.next 100).2.fB (n:=5) (by omega)
 have eK:(d.QS m:Int)=(((d.oM m).2.next 100).2.next 5).1:=by unfold aG.QS;omega
 have st:=J6 hm (tu d.qV) (d.oM m).1 (by rw[mS];omega) ((d.oM m).2.next 100).1
 have tl:=mS d.qV
 have sl:(d.oM m).1.length=d.qV:=aG.mh _ _ _
 rw[e0]at st
 have b0:d.OH m=⟨⟨[⟨tu d.qV,jw m (d.oM m).1 ((d.oM m).2.next 100).1 (tu d.qV).length⟩]⟩,100,(((d.oM m).2.next 100).2.next 5).2⟩:=by unfold aG.OH;rw[e0]
 have q2:=fun p1 p2=>QZ hm d.qV (by omega) (by omega) (tu d.qV) (d.oM m).1 (d.OH m) (by rw[b0];exact l3) g0 rfl p1 p2 (d.QS m) (by omega)
 have q2:=fun p1 p2 a b c e f g h i j k l=>uT (vs:=[.bp 0 0,a,.bp 1 0,.bp 2 0,I d.qV,b,c,e,.bp 5 0,I 100,I (d.QS m),f,g,h,i,j,k,l]) (q2 p1 p2)
 have eF:aG.Au m d.qV (d.OH m) (d.QS m)=d.ahX m:=rfl
 rw[eF]at q2
 unfold aG.vi
 rw[b0]at q2
 generalize d.ahX m=F at*
 generalize (tu d.qV)=tags at*
 generalize jw m (d.oM m).1 ((d.oM m).2.next 100).1 tags.length=sw at*
 generalize d.QS m=kk at*
 generalize (((d.oM m).2.next 100).2.next 5)=z3 at*
 generalize ((d.oM m).2.next 100)=z2 at*
 generalize d.oM m=z1 at*
 generalize d.next 3=z0 at*
 generalize d.qV=n at*
 obtain⟨x3,d3⟩:=z3
 obtain⟨x2,d2⟩:=z2
 obtain⟨ss,d1⟩:=z1
 obtain⟨x0,d0⟩:=z0
 obtain⟨⟨wf⟩,tf,df⟩:=F
 simp only[List.map_cons,List.map_nil,blH]at*
 have q2:∀p1 p2 a b c e f g h i j k l,exS aD K.pC _=_:=q2
 simp(disch:=omega)only[go_sem,K.cZ,↓reduceIte,ints,a1,eP.symm,q1,a2,a3,st,eK.symm,tl,sl,q2,reduceAdd,reduceSub]
def aG.spread(d:aG)(m:aB)(fl:List Spn):Wh×aG:=
 let p:=d.next m.aa.length
 let t:=p.2.next 200
 let s:=afh m fl [p.1] t.1
 let o:=t.2.one 2
 if o.1=true then
  let f:=o.2.akc m
  let a:=f.2.next 100
  let r:=Zr m fl m f.1 s.1 (s.1.time+a.1)
  if r.2=0 then(r.1,a.2)else(s.1,a.2)
 else(s.1,o.2)
structure Mch where
 kind:Int
 num:Int
 pl:List Int
instance : Dat Mch := ⟨⟨0, 0, []⟩⟩
abbrev Mch.e(x:Mch):T:= .agg [tI x.kind,tI x.num,tL x.pl]
theorem Av{n:Nat}{p:Nat→Bool}{x:Int}:x∈b9 n p↔∃k:Nat,x=k∧k<n∧p k=true:=by
 unfold b9
 simp only[List.mem_map,List.mem_filter,aLu]
 constructor
 · rintro ⟨k,⟨h1,h2⟩,rfl⟩;exact⟨k,rfl,h1,h2⟩
 · rintro ⟨k,rfl,h1,h2⟩;exact⟨k,⟨h1,h2⟩,rfl⟩
theorem DL{n:Nat}{p:Nat→Bool}{k:Nat}:(k:Int)∈b9 n p↔k<n∧p k=true:=by
 rw[Av]
 constructor
 · rintro ⟨j,h,h1,h2⟩
   obtain rfl:k=j:=by omega
   exact⟨h1,h2⟩
 · rintro ⟨h1,h2⟩;exact⟨k,rfl,h1,h2⟩
theorem FJ(l:List World)(hl:l.length≤4294967296)(f:Nat)(bs:List (List T))(p:World→Bool)(h:∀x,x∈l→aD 0 f (.t x.e::hX bs.length) (aX bs)=some (B (p x),aX bs)):
 aD 0 N.aJ [.t (.sl (l.map World.e)),.fn f (hX bs.length)] (aX bs)=
 some (I (match (List.range l.length).find? (fun j=>p (nth l j))with | some j=>(j:Int) | none=> -1),aX bs):=by
 refine ao K.dJ rfl ?_
 have loop:∀a b:D,exS aD K.gx ⟨[.t (.sl (l.map World.e)),.fn f (hX bs.length),a,b,I l.length,I 0],aX bs⟩=
  some (match (List.range l.length).find? (fun j=>p (nth l j))with
   | some j=>(.ret,⟨[.t (.sl (l.map World.e)),.fn f (hX bs.length),I j,I j,I l.length,I j],aX bs⟩)
   | none=>(.exit 0,⟨[.t (.sl (l.map World.e)),.fn f (hX bs.length),.und,.und,I l.length,I l.length],aX bs⟩)):=by
  intro a b
  refine cH (fun j=>⟨[.t (.sl (l.map World.e)),.fn f (hX bs.length),.und,.und,I l.length,I j],aX bs⟩) l.length (fun j=>p (nth l j)) _ _ rfl ?_ ?_ ?_ (by simp)
  · intro j hj hp
    have hc:=pf (h _ (ai hj)) rfl
    simp(disch:=omega)only[go_sem,K.bZ,↓reduceIte,hc,hp]
  · intro j hj hp
    have hc:=pf (h _ (ai hj)) rfl
    simp(disch:=omega)only[go_sem,K.bZ,↓reduceIte,hp,hc]
    simp
  · simp(disch:=omega)only[go_sem,K.bZ,↓reduceIte]
 simp(disch:=omega)only[go_sem,K.aJ,↓reduceIte,loop]
 cases hf:(List.range l.length).find? (fun j=>p (nth l j))with
 | some j=>simp(disch:=omega)only[go_sem,↓reduceIte]
 | none=>simp(disch:=omega)only[go_sem,↓reduceIte]
theorem FK{α:Type} [Dat α]{l:List α}{p:α→Bool}:((List.range l.length).find? fun j=>p (nth l j)).isSome=l.any p:=by
 rw[List.isSome_find?,Bool.eq_iff_iff,List.any_eq_true,List.any_eq_true]
 constructor
 · rintro ⟨j,hj,h⟩
   exact⟨_,ai (aLu.1 hj),h⟩
 · rintro ⟨x,hx,h⟩
   obtain⟨j,hj⟩:=aLf.1 hx
   exact⟨j,aLu.2 (aLe.1 hj).1,by rw[bC hj];exact h⟩
theorem Q3{α:Type} [Dat α](l:List α)(p:α→Bool):l.any p=(List.range l.length).any fun i=>p (nth l i):=by
 rw[← FK,List.isSome_find?]
theorem Br(l:List World)(hl:l.length≤4294967296)(f:Nat)(bs:List (List T))(p:World→Bool)(h:∀x,x∈l→aD 0 f (.t x.e::hX bs.length) (aX bs)=some (B (p x),aX bs)):
 aD 0 N.aA [.t (.sl (l.map World.e)),.fn f (hX bs.length)] (aX bs)=some (B (l.any p),aX bs):=by
 refine ao K.dn rfl ?_
 have h:=FJ l hl f bs p h
 have hc:=Ah aD bs f _ 0 (.sl (l.map World.e)) h rfl
 have e:=FK (l:=l) (p:=p)
 cases hf:(List.range l.length).find? (fun j=>p (nth l j))with
 | some j=>rw[hf]at e hc;simp(disch:=omega)only[go_sem,K.aA,↓reduceIte,←e,hc]
 | none=>rw[hf]at e hc;simp(disch:=omega)only[go_sem,K.aA,↓reduceIte,←e,hc,Option.isSome_none]
def aac(aS t:Int)(p:Nat)(x:World):Bool:=decide (0≤aS∧aS<x.whr.length)&&(decide (p<(nth x.whr aS.toNat).frm.length)&&decide (nth (nth x.whr aS.toNat).frm p≤t))
theorem Q4(x:World)(hx:x.sz)(aS t:Int)(p:Nat)(hp:p≤1000000):
 aD 0 N.bB [.t x.e,.bp 0 0,.bp 1 0,.bp 2 0] [.box [I aS],.box [I p],.box [I t]]=some (B (aac aS t p x),[.box [I aS],.box [I p],.box [I t]]):=by
 refine ao K.kO rfl ?_
 have li:=Bq aS 0 (x.whr.length-1)
 obtain⟨h1,h2,h3⟩:=hx
 unfold aac
 by_cases c:0≤aS∧aS<x.whr.length
 · obtain⟨c1,c2⟩:=c
   have e1:(x.whr.map Wh.e)[aS.toNat]?=some (nth x.whr aS.toNat).e:=b8 _ (by omega)
   have h4:=h3 _ (ai (l:=x.whr) (j:=aS.toNat) (by omega))
   have li':decide (0≤aS∧aS≤(x.whr.length:Int)-1)=true:=by simp;omega
   rw[li']at li
   generalize nth x.whr aS.toNat=w at*
   obtain⟨tags,whr⟩:=x
   obtain⟨time,frm⟩:=w
   simp only at*
   by_cases c3:p<frm.length
   · simp(disch:=omega)only[go_sem,K.bB,↓reduceIte,reduceAdd,reduceSub,li,e1,c1,c2,c3,and_self]
   · simp(disch:=omega)only[go_sem,K.bB,↓reduceIte,reduceAdd,reduceSub,li,e1,c1,c2,c3,and_self]
 · have li':decide (0≤aS∧aS≤(x.whr.length:Int)-1)=false:=by simp;omega
   rw[li']at li
   obtain⟨tags,whr⟩:=x
   simp only at*
   simp(disch:=omega)only[go_sem,K.bB,↓reduceIte,reduceAdd,reduceSub,li,c]
theorem Um(b:Bel)(hb:b.sz)(aS t:Int)(p:Nat)(hp:p≤1000000):
 aD 0 N.cL [I p,.bp 0 0,.bp 1 0,.bp 2 0] [.box [.t (.sl (b.av.map World.e))],.box [I aS],.box [I t]]=some (B (b.av.any (aac aS t p)),[.box [.t (.sl (b.av.map World.e))],.box [I aS],.box [I t]]):=by
 refine ao K.mH rfl ?_
 have cf:=Br b.av (by have:=hb.1;omega) N.bB [[tI aS],[tI p],[tI t]] (aac aS t p) (fun x hx=>Q4 x (hb.2 x hx) aS t p hp)
 have cf:aD 0 N.aA [.t (.sl (b.av.map World.e)),.fn N.bB [.bp 0 0,.bp 1 0,.bp 2 0]] [.box [I aS],.box [I p],.box [I t]]=some (B (b.av.any (aac aS t p)),[.box [I aS],.box [I p],.box [I t]]):=cf
 simp(disch:=omega)only[go_sem,K.cL,↓reduceIte,reduceAdd,reduceSub,cf]
theorem Q5(b:Bel)(aS t:Int)(p:Nat):b.av.any (aac aS t p)=C1 b aS t p:=by
 unfold C1
 rw[Q3]
 congr 1
 funext i
 unfold aac
 congr 1
 rw[Bool.eq_iff_iff]
 simp only[aLr,decide_eq_true_eq,y0,DL]
theorem xZ(b:Bel)(hb:b.sz)(aS t:Int):aD 0 N.eQ [.t b.e,I aS,I t] []=some (.t (tL (nf b aS t)),[]):=by
 refine ao K.oz rfl ?_
 have wh:=Fs 64 (by omega) N.cL [[.sl (b.av.map World.e)],[tI aS],[tI t]] (C1 b aS t) (fun p hp=>by rw[← Q5];exact Um b hb aS t p (by omega))
 have wh:aD 0 N.eU [I 64,.fn N.cL [.bp 0 0,.bp 1 0,.bp 2 0]] [.box [.t (.sl (b.av.map World.e))],.box [I aS],.box [I t]]=some (.t (tL (nf b aS t)),[.box [.t (.sl (b.av.map World.e))],.box [I aS],.box [I t]]):=wh
 obtain⟨ws⟩:=b
 simp only at wh
 generalize nf ⟨ws⟩ aS t=r at*
 simp(disch:=omega)only[go_sem,K.eQ,↓reduceIte,wh,reduceAdd,reduceSub]
theorem vk(b:Bel)(aS t:Int):(nf b aS t).length≤64:=iJ _ _
end Go.Ev
namespace Go.Ev
open Go
variable [Lib] [cu] [bM] [gu] [gk] [i7] [fK] [fI] [iv] [gj] [dq] [cT]
theorem FL(l:List Wh)(hl:l.length≤4294967296)(f:Nat)(bs:List (List T))(p:Wh→Bool)(h:∀x,x∈l→aD 0 f (.t x.e::hX bs.length) (aX bs)=some (B (p x),aX bs)):
 aD 0 N.az [.t (.sl (l.map Wh.e)),.fn f (hX bs.length)] (aX bs)=
 some (I (match (List.range l.length).find? (fun j=>p (nth l j))with | some j=>(j:Int) | none=> -1),aX bs):=by
 refine ao K.bU rfl ?_
 have loop:∀a b:D,exS aD K.dB ⟨[.t (.sl (l.map Wh.e)),.fn f (hX bs.length),a,b,I l.length,I 0],aX bs⟩=
  some (match (List.range l.length).find? (fun j=>p (nth l j))with
   | some j=>(.ret,⟨[.t (.sl (l.map Wh.e)),.fn f (hX bs.length),I j,I j,I l.length,I j],aX bs⟩)
   | none=>(.exit 0,⟨[.t (.sl (l.map Wh.e)),.fn f (hX bs.length),.und,.und,I l.length,I l.length],aX bs⟩)):=by
  intro a b
  refine cH (fun j=>⟨[.t (.sl (l.map Wh.e)),.fn f (hX bs.length),.und,.und,I l.length,I j],aX bs⟩) l.length (fun j=>p (nth l j)) _ _ rfl ?_ ?_ ?_ (by simp)
  · intro j hj hp
    have hc:=pf (h _ (ai hj)) rfl
    simp(disch:=omega)only[go_sem,K.bh,↓reduceIte,hc,hp]
  · intro j hj hp
    have hc:=pf (h _ (ai hj)) rfl
    simp(disch:=omega)only[go_sem,K.bh,↓reduceIte,hp,hc]
    simp
  · simp(disch:=omega)only[go_sem,K.bh,↓reduceIte]
 simp(disch:=omega)only[go_sem,K.az,↓reduceIte,loop]
 cases hf:(List.range l.length).find? (fun j=>p (nth l j))with
 | some j=>simp(disch:=omega)only[go_sem,↓reduceIte]
 | none=>simp(disch:=omega)only[go_sem,↓reduceIte]
theorem Bt(l:List Wh)(hl:l.length≤4294967296)(f:Nat)(bs:List (List T))(p:Wh→Bool)(h:∀x,x∈l→aD 0 f (.t x.e::hX bs.length) (aX bs)=some (B (p x),aX bs)):
 aD 0 N.au [.t (.sl (l.map Wh.e)),.fn f (hX bs.length)] (aX bs)=some (B (l.any p),aX bs):=by
 refine ao K.bL rfl ?_
 have h:=FL l hl f bs p h
 have hc:=Ah aD bs f _ 0 (.sl (l.map Wh.e)) h rfl
 have e:=FK (l:=l) (p:=p)
 cases hf:(List.range l.length).find? (fun j=>p (nth l j))with
 | some j=>rw[hf]at e hc;simp(disch:=omega)only[go_sem,K.au,↓reduceIte,←e,hc]
 | none=>rw[hf]at e hc;simp(disch:=omega)only[go_sem,K.au,↓reduceIte,←e,hc,Option.isSome_none]
theorem C7{l:List Int}:iG l=true↔l.Nodup∧∀x∈l,1≤x∧x≤65535:=by
 constructor
 · intro h
   refine⟨kH h,fun x hx=>?_⟩
   simp only[iG,aLx,aLu,pM,decide_eq_true_eq]at h
   obtain⟨j,hj⟩:=aLf.1 hx
   have:=h j (aLe.1 hj).1
   rw[bC hj]at this
   exact⟨this.1,this.2.1⟩
 · rintro ⟨h1,h2⟩
   simp only[iG,aLx,aLu,pM,decide_eq_true_eq]
   intro j hj
   obtain⟨a,b⟩:=h2 _ (ai hj)
   refine⟨a,b,Decidable.byContradiction fun c=>?_⟩
   obtain⟨d,e⟩:=Ar (l:=l.take j) (x:=nth l j) (by omega)
   have z:0≤cN (l.take j) (nth l j):=by omega
   generalize cN (l.take j) (nth l j)=k at*
   rw[List.length_take]at d
   have k1:k.toNat<j:=by omega
   have e1:(l.take j)[k.toNat]?=l[k.toNat]?:=List.getElem?_take_of_lt k1
   have e2:l[k.toNat]?=some l[k.toNat]:=aLc (by omega)
   rw[bC (e1.trans e2),←bC e2]at e
   have n2:=(List.getElem?_inj (by omega:k.toNat<l.length) h1).1 (show l[k.toNat]?=l[j]? by rw[cG (by omega),cG hj,e])
   omega
theorem LS{l:List Int}{lo hi:Int}:WA l lo hi=true↔l.Pairwise (· < ·)∧∀x∈l,lo≤x∧x≤hi:=by
 have e:WA l lo hi=true↔∀j,j<l.length→lo≤nth l j∧nth l j≤hi∧(0<j→nth l (j-1)<nth l j):=by
  simp only[WA,Bool.not_eq_true',List.any_eq_false,aLu,Qs,Bool.not_eq_true]
  constructor
  · intro h j hj
    have:=h j hj
    exact Decidable.byContradiction fun c=>this (decide_eq_false c)
  · intro h j hj c
    exact(of_decide_eq_false c) (h j hj)
 rw[e]
 constructor
 · intro h
   refine⟨?_,fun x hx=>?_⟩
   · have key:∀d i,i+d+1<l.length→nth l i<nth l (i+d+1):=by
      intro d
      induction d with
      | zero=>intro i hi;have:=(h (i+0+1) hi).2.2 (by omega);simpa using this
      | succ d ih=>
        intro i hi
        have a:=ih i (by omega)
        have b:=(h (i+(d+1)+1) hi).2.2 (by omega)
        rw[show i+(d+1)+1-1=i+d+1 by omega]at b
        omega
     rw[List.pairwise_iff_getElem]
     intro i j hi hj hij
     have:=key (j-i-1) i (by omega)
     rw[show i+(j-i-1)+1=j by omega,bC (aLc hi),bC (aLc hj)]at this
     exact this
   · obtain⟨j,hj⟩:=aLf.1 hx
     have:=h j (aLe.1 hj).1
     rw[bC hj]at this
     exact⟨this.1,this.2.1⟩
 · rintro ⟨h1,h2⟩ j hj
   refine⟨(h2 _ (ai hj)).1,(h2 _ (ai hj)).2,fun h0=>?_⟩
   have:=(List.pairwise_iff_getElem.1 h1) (j-1) j (by omega) hj (by omega)
   rwa [← bC (aLc (by omega:j-1<l.length)),←bC (aLc hj)]at this
theorem Nv(l:List Int):WA (je l) 1 65535=iG l:=by
 rw[Bool.eq_iff_iff,LS,C7]
 have p:=kG l
 have u:=s8 l
 constructor
 · rintro ⟨h1,h2⟩
   refine⟨p.nodup_iff.1 (h1.imp fun h=>by omega),fun x hx=>h2 x (p.mem_iff.2 hx)⟩
 · rintro ⟨h1,h2⟩
   have nd:(je l).Nodup:=p.nodup_iff.2 h1
   refine⟨?_,fun x hx=>h2 x (p.mem_iff.1 hx)⟩
   have:=List.Pairwise.and u nd
   exact this.imp fun h=>by omega
theorem Q6(l:List Int)(hl:l.length≤1000000):aD 0 N.gY [.t (tL l)] []=some (B (iG l),[]):=by
 refine ao K.qU rfl ?_
 have v:=CY l
 have s:=CZ l hl
 have r:=mN (je l) 1 65535 (by rw[kr];omega)
 rw[Nv]at r
 simp(disch:=omega)only[go_sem,K.gY,↓reduceIte,v,s,r,reduceAdd,reduceSub]
theorem vl{n j:Nat}{p:Nat→Bool}(h1:j<n)(h2:p j=true)(h3:∀k,k<j→p k=false):(List.range n).find? p=some j:=by
 cases hf:(List.range n).find? p with
 | none=>exact absurd h2 (by simpa using List.find?_eq_none.1 hf j (aLu.2 h1))
 | some k=>
   obtain⟨k1,k2⟩:=CI hf
   have:k≤j:=by
    rcases Nat.lt_or_ge j k with c | c
    · rw[List.find?_range_eq_some]at hf
      exact absurd h2 (by simpa using hf.2.2 j c)
    · exact c
   rcases Nat.lt_or_ge k j with c | c
   · rw[h3 k c]at k2;cases k2
   · rw[show k=j by omega]
theorem Ia{n:Nat}{p:Nat→Bool}(h:∀k,k<n→p k=false):(List.range n).find? p=none:=List.find?_eq_none.2 fun x hx=>by rw[h x (aLu.1 hx)];simp
theorem Q7(a b:List Int):decide (acT a b<0)=u9 a b:=by
 unfold acT u9
 cases hf:(List.range (min a.length b.length)).find? (fun j=>decide (nth a j≠nth b j))with
 | some j=>
   rw[List.find?_range_eq_some]at hf
   obtain⟨h2,h1,h3⟩:=hf
   have h1:=aLu.1 h1
   have e:(List.range a.length).find? (LM a b)=some j:=vl (by omega) (by simp only[LM,h2,Bool.or_true]) (fun k hk=>by
    have:=h3 k hk
    simp only[LM,Bool.or_eq_false_iff,decide_eq_false_iff_not]
    exact⟨by omega,by simpa using this⟩)
   have h2:nth a j≠nth b j:=by simpa using h2
   rw[e]
   simp only[if_neg (by omega:¬b.length≤j)]
   rw[decide_eq_decide]
   unfold QJ
   split
   · omega
   · split<;>omega
 | none=>
   have h3:∀k,k<min a.length b.length→nth a k=nth b k:=fun k hk=>by
    have:=List.find?_eq_none.1 hf k (aLu.2 hk)
    simpa using this
   by_cases c:a.length≤b.length
   · have e:(List.range a.length).find? (LM a b)=none:=Ia fun k hk=>by
      simp only[LM,Bool.or_eq_false_iff,decide_eq_false_iff_not,Decidable.not_not]
      exact⟨by omega,h3 k (by omega)⟩
     rw[e]
     simp only[decide_eq_decide]
     split<;>omega
   · have e:(List.range a.length).find? (LM a b)=some b.length:=vl (by omega) (by simp[LM]) (fun k hk=>by
      simp only[LM,Bool.or_eq_false_iff,decide_eq_false_iff_not,Decidable.not_not]
      exact⟨by omega,h3 k (by omega)⟩)
     rw[e]
     simp only[aLs,if_true,decide_eq_decide]
     omega
def pwB(m:aB)(ws:List World)(first:List Int)(i:Nat):Bool:=
 decide (1≤(nth ws i).tags.length∧(nth ws i).tags.length≤12)&&decide ((nth ws i).whr.length=(nth ws i).tags.length)&&iG (nth ws i).tags&&decide (je (nth ws i).tags=je first)&&(decide (i=0)||u9 (nth ws (i-1)).tags (nth ws i).tags)&& !((nth ws i).whr.any fun x=> !dX m x)
def Un(m:aB)(b:Bel):Bool:=decide (1≤b.av.length∧b.av.length≤24)&&(List.range b.av.length).all (pwB m b.av (nth b.av 0).tags)
theorem Ba{a b:List Int}:je a=je b↔a.Perm b:=by
 constructor
 · intro h
   exact(kG a).symm.trans (h▸kG b)
 · intro h
   exact ake (s8 a) (s8 b) ((kG a).trans (h.trans (kG b).symm))
theorem xd{a b:List Int}(ha:a.Nodup)(hb:b.Nodup)(hl:a.length=b.length)(hs:∀x∈a,x∈b):a.Perm b:=by
 have key:∀y∈b,y∈a:=fun y hy=>Decidable.byContradiction fun hn=>by
  have:=tc ha (l':=b.erase y) (fun x hx=>(List.mem_erase_of_ne (fun e=>hn (by rw[← e];exact hx))).2 (hs x hx))
  rw[List.length_erase_of_mem hy]at this
  have:=List.length_pos_of_mem hy
  omega
 exact(List.perm_ext_iff_of_nodup ha hb).2 fun x=>⟨hs x,key x⟩
theorem Uo(m:aB)(b:Bel):Un m b=qq m b:=by
 obtain⟨ws⟩:=b
 rw[Bool.eq_iff_iff]
 constructor
 · intro h
   simp only[Un,aLr,decide_eq_true_eq,aLx,aLu,pwB,Bool.or_eq_true,Bool.not_eq_true',List.any_eq_false,Bool.not_eq_false']at h
   obtain⟨⟨h1,h2⟩,h⟩:=h
   have h0:=h 0 (by omega)
   simp only[qq,aLr,decide_eq_true_eq,aLx,aLu,rS,Bool.or_eq_true,OE]
   refine⟨⟨⟨h1,h2⟩,h0.1.1.1.1.1⟩,fun i hi=>?_⟩
   obtain⟨⟨⟨⟨⟨a1,a2⟩,a3⟩,a4⟩,a5⟩,a6⟩:=h i hi
   have pm:=Ba.1 a4
   refine⟨⟨⟨⟨pm.length_eq,by rw[a2,pm.length_eq]⟩,a3⟩,a5⟩,fun k hk=>⟨?_,?_⟩⟩
   · exact nL.2 (pm.mem_iff.1 (ai hk))
   · simpa using a6 _ (ai (l:=(nth ws i).whr) (j:=k) (by omega))
 · intro h
   obtain⟨h1,h2,h3,h4,h5⟩:=iR h
   simp only at h1 h2 h3 h4 h5
   have p0:=(kt (h5 0 (by omega))).2.2.1
   simp only[Un,aLr,decide_eq_true_eq,aLx,aLu,pwB,Bool.or_eq_true,Bool.not_eq_true',List.any_eq_false,Bool.not_eq_false']
   refine⟨⟨h1,h2⟩,fun i hi=>?_⟩
   obtain⟨w1,w2,w3,w4⟩:=kt (h5 i hi)
   have ls:=h5 i hi
   simp only[rS,aLr,Bool.or_eq_true,decide_eq_true_eq]at ls
   refine⟨⟨⟨⟨⟨by omega,by omega⟩,w3⟩,?_⟩,ls.1.2⟩,fun x hx=>?_⟩
   · refine Ba.2 (xd (kH w3) (kH p0) w1 fun x hx=>?_)
     obtain⟨j,hj⟩:=aLf.1 hx
     have:=(w4 j (aLe.1 hj).1).1
     rwa [bC hj]at this
   · obtain⟨j,hj⟩:=aLf.1 hx
     have:=(w4 j (by rw[w1,←w2];exact(aLe.1 hj).1)).2
     rw[bC hj]at this
     simpa using this
theorem Kd{m:aB}(h:m.ok)(x:Wh)(hx:x.frm.length≤1000000):aD 0 N.ed [.t x.e,.bp 0 0] [.box (ae m)]=some (B (!dX m x),[.box (ae m)]):=by
 refine ao K.pP rfl ?_
 have v:=Qt h x hx
 obtain⟨aa,roads⟩:=m
 obtain⟨time,frm⟩:=x
 simp only at*
 simp(disch:=omega)only[go_sem,K.ed,↓reduceIte,v,reduceAdd,reduceSub]
abbrev swS(m:aB)(ws:List World)(first:List Int)(i:Nat):St:=
 ⟨[.und,.und,.bp 0 0,.bp 1 0,.und,.t (tL (je first)),.und,.und,.t (.sl (ws.map World.e)),I ws.length,I i],[.box (ae m),.box [.t (.sl (ws.map World.e))],.box [.t (tL first)]]⟩
theorem Q8{m:aB}(h:m.ok)(ws:List World)(first:List Int)(hf:first.length≤1000000)(hs:∀x∈ws,x.sz)(i:Nat)(hi:i<ws.length)(hl:ws.length≤1000000):
 (pwB m ws first i=true→gE true [0,1,4,6,7] 3 (exS aD K.cA (swS m ws first i))=some (swS m ws first (i+1)))∧
 (pwB m ws first i=false→∃q,exS aD K.cA (swS m ws first i)=some q∧q.1= .ret∧q.2.vs[4]?=some (B false)):=by
 simp only[swS]
 have sz:=hs _ (ai hi)
 have ex:(ws.map World.e)[i]?=some (nth ws i).e:=b8 _ hi
 unfold pwB
 have ey:0<i→(ws.map World.e)[i-1]?=some (nth ws (i-1)).e∧(nth ws (i-1)).tags.length≤1000000:=fun h0=>⟨b8 _ (by omega),(hs _ (ai (by omega))).1⟩
 generalize nth ws (i-1)=y at*
 generalize nth ws i=x at*
 obtain⟨tags,whr⟩:=x
 obtain⟨ptags,pwhr⟩:=y
 obtain⟨s1,s2,s3⟩:=sz
 simp only at s1 s2 s3 ey ⊢
 have li:=Bq tags.length 1 12
 have tg:=Q6 tags s1
 have va:=CY tags
 have so:=CZ tags s1
 have eq:=LF (je tags) (je first) (by rw[kr];omega) (by rw[kr];omega)
 have cf:=Bt whr (by omega) N.ed [[.sl (m.aa.map Place.e),.sl (m.roads.map Road.e)]] (fun x=> !dX m x) (fun x hx=>Kd h x (s3 x hx))
 have cf:aD 0 N.au [.t (.sl (whr.map Wh.e)),.fn N.ed [.bp 0 0]] [.box (ae m)]=some (B (whr.any fun x=> !dX m x),[.box (ae m)]):=cf
 have cp:0<i→aD 0 N.bc [.t (tL ptags),.t (tL tags)] []=some (I (acT ptags tags),[]):=fun h0=>No ptags tags (ey h0).2 s1
 have cl:=Q7 ptags tags
 generalize je tags=st at*
 generalize je first=sf at*
 generalize (whr.any fun x=> !dX m x)=an at*
 generalize iG tags=pr at*
 generalize u9 ptags tags=le at*
 generalize acT ptags tags=cc at*
 clear hs s3
 by_cases c1:1≤tags.length∧tags.length≤12
 · have li:aD 0 N.eW [I tags.length,I 1,I 12] []=some (B true,[]):=by rw[li,decide_eq_true (by omega)]
   by_cases c2:whr.length=tags.length
   · cases pr with
     | false=>
       refine⟨fun h=>by simp at h,fun _=>?_⟩
       simp(disch:=omega)only[go_sem,K.cA,↓reduceIte,li,tg,ex,c2,reduceAdd,reduceSub]
       refine⟨_,rfl,?_,?_⟩<;>rfl
     | true=>
       by_cases c4:st=sf
       · subst c4
         simp only[decide_true]at eq
         cases i with
         | zero=>
           cases an with
           | true=>
             refine⟨fun h=>by simp at h,fun _=>?_⟩
             simp(disch:=omega)only[go_sem,K.cA,↓reduceIte,li,tg,ex,c2,va,so,eq,cf,reduceAdd,reduceSub]
             refine⟨_,rfl,?_,?_⟩<;>rfl
           | false=>
             refine⟨fun _=>?_,fun h=>by simp[c1,c2]at h⟩
             simp(disch:=omega)only[go_sem,K.cA,↓reduceIte,li,tg,ex,c2,va,so,eq,cf,reduceAdd,reduceSub]
         | succ i=>
           obtain⟨ey, -⟩:=ey (by omega)
           have cp:=cp (by omega)
           simp only[Nat.add_sub_cancel]at ey
           cases le with
           | false=>
             have cl:¬cc<0:=by simpa using cl
             refine⟨fun h=>by simp at h,fun _=>?_⟩
             simp(disch:=omega)only[go_sem,K.cA,↓reduceIte,li,tg,ex,c2,va,so,eq,ey,cp,reduceAdd,reduceSub]
             refine⟨_,rfl,?_,?_⟩<;>rfl
           | true=>
             have cl:cc<0:=by simpa using cl
             cases an with
             | true=>
               refine⟨fun h=>by simp at h,fun _=>?_⟩
               simp(disch:=omega)only[go_sem,K.cA,↓reduceIte,li,tg,ex,c2,va,so,eq,ey,cp,cf,reduceAdd,reduceSub]
               refine⟨_,rfl,?_,?_⟩<;>rfl
             | false=>
               refine⟨fun _=>?_,fun h=>by simp[c1,c2]at h⟩
               simp(disch:=omega)only[go_sem,K.cA,↓reduceIte,li,tg,ex,c2,va,so,eq,ey,cp,cf,reduceAdd,reduceSub]
       · simp only[c4,decide_false]at eq
         refine⟨fun h=>by simp[c4]at h,fun _=>?_⟩
         simp(disch:=omega)only[go_sem,K.cA,↓reduceIte,li,tg,ex,c2,va,so,eq,reduceAdd,reduceSub]
         refine⟨_,rfl,?_,?_⟩<;>rfl
   · refine⟨fun h=>by simp[c2]at h,fun _=>?_⟩
     simp(disch:=omega)only[go_sem,K.cA,↓reduceIte,li,ex,c2,reduceAdd,reduceSub]
     refine⟨_,rfl,?_,?_⟩<;>rfl
 · have li:aD 0 N.eW [I tags.length,I 1,I 12] []=some (B false,[]):=by rw[li,decide_eq_false (by omega)]
   refine⟨fun h=>by simp[c1]at h,fun _=>?_⟩
   simp(disch:=omega)only[go_sem,K.cA,↓reduceIte,li,ex,reduceAdd,reduceSub]
   refine⟨_,rfl,?_,?_⟩<;>rfl
end Go.Ev
namespace Go.Ev
open Go
variable [Lib] [cu] [bM] [iv] [gj]
theorem Q9{l:List Int}{n:Int}(h:lr l n=true):∀x∈l,0≤x∧x<n:=by
 intro x hx
 simp only[lr,aLx,aLu,decide_eq_true_eq]at h
 obtain⟨j,hj⟩:=aLf.1 hx
 have:=h j (aLe.1 hj).1
 rw[bC hj]at this
 exact⟨this.1,this.2.1⟩
theorem aad{w:Wh}{l:List Int}{b:Int}{n:Nat}(hl:∀p∈l,0≤p∧p<n)(hw:∀x∈w.frm,plT x)(hn:w.frm.length=n):∀x∈(DC w l b n l.length).1,plT x:=by
 intro x hx
 obtain⟨j,hj⟩:=aLf.1 hx
 have jl:=(aLe.1 hj).1
 rw[sR]at jl
 have e:=LA (w:=w) (b:=b) hl _ (aLs _) j jl
 rw[bC hj]at e
 rw[e]
 split
 · exact hw _ (ai (by omega))
 · exact .inl rfl
theorem Ra{m:aB}(h:m.ok){w:Wh}(hv:dX m w=true)(l:List Int)(a b:Int):
 (DJ m w l a b=(⟨b,dN m a none (DC w l b m.aa.length l.length).1⟩,0)∧mJ m w l a b=0∧w.time≤a∧(DC w l b m.aa.length l.length).2=true∧dX m (DJ m w l a b).1=true)∨((DJ m w l a b).1=w∧(DJ m w l a b).2≠0):=by
 by_cases c0:mJ m w l a b=0
 · obtain⟨-,h0,hs,ia,ib,hab⟩:=oX c0
   by_cases c1:a<w.time
   · right;unfold DJ;rw[if_neg (by simpa using c0),if_pos c1];exact⟨rfl,by simp⟩
   · cases c2:(DC w l b m.aa.length l.length).2 with
     | false=>right;unfold DJ;rw[if_neg (by simpa using c0),if_neg c1,if_neg (by simp[c2])];exact⟨rfl,by simp⟩
     | true=>
       left
       have e:DJ m w l a b=(⟨b,dN m a none (DC w l b m.aa.length l.length).1⟩,0):=by
        unfold DJ;rw[if_neg (by simpa using c0),if_neg c1,if_pos c2]
       obtain⟨v1,v2,v3, -⟩:=eZ hv
       refine⟨e,c0,by omega,rfl,?_⟩
       rw[e]
       exact sT h (sR ..) (aad (Q9 hs) v3 v1) ia.1 hab ib
 · right;unfold DJ;rw[if_pos c0];exact⟨rfl,c0⟩
theorem Rb{m:aB}(h:m.ok){w:Wh}(hv:dX m w=true)(l:List Int)(a b:Int):dX m (DJ m w l a b).1=true:=by
 rcases Ra h hv l a b with⟨-, -, -, -,v⟩ | ⟨e, -⟩
 · exact v
 · rw[e];exact hv
end Go.Ev
namespace Go.Ev
open Go
variable [Lib] [cu] [bM] [gu] [gk] [fK] [fI] [iv] [gj]
end Go.Ev
namespace Go.Ev
open Go
variable [Lib] [cu] [bM]
theorem Rc{s:Wh}{t:Int}{p:Int}:p∈y0 s t↔0≤p∧p<s.frm.length∧nth s.frm p.toNat≤t:=by
 unfold y0
 rw[Av]
 constructor
 · rintro ⟨k,rfl,h1,h2⟩
   exact⟨by omega,by omega,by simpa using h2⟩
 · rintro ⟨h1,h2,h3⟩
   exact⟨p.toNat,by omega,by omega,by simpa using h3⟩
section
variable {m : aB} (hm : m.ok) {N : Nat} {b : Bel} (hb : BOk m N b) {s : Wh} (hs : s.frm.length = m.aa.length) {l : List Mch}
variable (hl : ∀ y ∈ l, y.pl.length ≤ m.aa.length ∧ 1 ≤ y.pl.length ∧ ∀ x ∈ y.pl, 0 ≤ x ∧ x < m.aa.length) {t a : Int} (t0 : 0 ≤ t) (t1 : t ≤ 10000) (a0 : 0 ≤ a) (a1 : a ≤ 10000) (d : aG)
include hm hb hs hl t0 t1 a0 a1
omit hm hb t0 t1 a1 in
end
def aG.skip(d:aG)(n:Int):Nat→aG
 | 0=>d
 | k+1=>((d.skip n k).next n).2
end Go.Ev
namespace Go.Ev
open Go
variable [Lib] [cu] [bM] [i7]
end Go.Ev
namespace Go.Ev
open Go
variable [Lib] [cu] [bM] [gu] [gk] [i7] [fK] [fI] [iv] [gj]
theorem LU(a b:List Int):∀n j,j<n→nth (M5 a b n) j=min (nth a j) (nth b j)
 | 0,j,h=>by omega
 | n+1,j,h=>by
   have ln:=qn a b n
   by_cases e:j=n
   · subst e
     exact bC (by simp only[M5];rw[aLh (by omega),ln];simp)
   · have ih:=LU a b n j (by omega)
     rw[← ih]
     have:(M5 a b n)[j]?=some (nth (M5 a b n) j):=cG (by omega)
     exact bC (by simp only[M5];rw[aLg (by omega)];exact this)
theorem Nw{m:aB}(h:m.ok){a b:Wh}(ha:dX m a=true)(hb:dX m b=true):(qN a b).2=0∧dX m (qN a b).1=true∧(qN a b).1.frm.length=m.aa.length∧∀j,j<m.aa.length→nth (qN a b).1.frm j=min (nth a.frm j) (nth b.frm j):=by
 obtain⟨a1,a2,a3, -⟩:=eZ ha
 obtain⟨b1,b2,b3, -⟩:=eZ hb
 have ca:=CQ h ha
 have cb:=CQ h hb
 have e:qN a b=(⟨max a.time b.time,M5 a.frm b.frm a.frm.length⟩,0):=by unfold qN;rw[if_pos (by omega)]
 rw[e]
 have mn:=fun j (hj:j<m.aa.length)=>LU a.frm b.frm a.frm.length j (by omega)
 refine⟨rfl,CP h (by simp only[qn];exact a1) (by unfold inT at *;simp only;omega) (fun x hx=>?_) ?_,by simp only[qn];exact a1,mn⟩
 · obtain⟨j,hj⟩:=aLf.1 hx
   have jl:=(aLe.1 hj).1
   simp only[qn]at jl
   have:=mn j (by omega)
   rw[bC hj]at this
   have x1:=a3 _ (ai (l:=a.frm) (j:=j) jl)
   have x2:=b3 _ (ai (l:=b.frm) (j:=j) (by omega))
   unfold plT inT at*
   omega
 · intro k hk back hi h1 h2 h3
   have r1:=Road.AL (h.rs _ (ai hk)) back
   have r2:=Road.Er (h.rs _ (ai hk)) back
   simp only at h2 h3 ⊢
   rw[mn _ (by omega)]at h2 h3 ⊢
   rw[mn _ (by omega)]
   have y1:=ca k hk back rfl h1
   have y2:=cb k hk back rfl h1
   omega
theorem Re{m:aB}(h:m.ok){w:Wh}(hv:dX m w=true)(l:List Int)(a b bl:Int):
 (Eu m w l a b bl=(⟨b,dN m b none (dN m (b-bl) (some l) (JT w.frm l l.length))⟩,0)∧mJ m w l a b=0∧w.time≤b∧max a w.time<b-bl∧inT bl∧
  (dN m (b-bl) (some l) (JT w.frm l l.length)).length=m.aa.length∧(∀x∈dN m (b-bl) (some l) (JT w.frm l l.length),plT x))∨
 ((Eu m w l a b bl).1=w∧((Eu m w l a b bl).2=0→w.time≤b∧mJ m w l a b=0)):=by
 by_cases c0:mJ m w l a b=0
 · obtain⟨-,h0,hs,ia,ib,hab⟩:=oX c0
   by_cases c1:inT bl
   · by_cases c2:b<w.time
     · right;unfold Eu;rw[if_neg (by simpa using c0),if_neg (fun x=>x c1),if_pos c2];exact⟨rfl,by simp⟩
     · by_cases c3:b-max a w.time≤bl
       · right;unfold Eu;rw[if_neg (by simpa using c0),if_neg (fun x=>x c1),if_neg c2,if_pos c3];exact⟨rfl,fun _=>⟨by omega,c0⟩⟩
       · left
         obtain⟨v1,v2,v3, -⟩:=eZ hv
         have pl:∀x∈JT w.frm l l.length,plT x:=by
          have key:∀k,∀x∈JT w.frm l k,plT x:=by
           intro k
           induction k with
           | zero=>exact v3
           | succ k ih=>
             intro x hx
             rcases aLk hx with hx | hx
             · exact ih x hx
             · exact .inl hx
          exact key _
         have bn:bnd (JT w.frm l l.length):=fun x hx=>nE (pl x hx)
         unfold inT at ia c1 v2 ib
         refine⟨?_,c0,by omega,by omega,c1,(CO h (by rw[y5];exact v1) bn).1,Ey h plT (by rw[y5];exact v1) bn pl (fun x h1 h2=> .inr ⟨by omega,h2⟩)⟩
         unfold Eu;rw[if_neg (by simpa using c0),if_neg (fun x=>x (by unfold inT;omega)),if_neg c2,if_neg c3]
   · right;unfold Eu;rw[if_neg (by simpa using c0),if_pos c1];exact⟨rfl,by simp⟩
 · right;unfold Eu;rw[if_pos c0];exact⟨rfl,fun h=>absurd h c0⟩
theorem Rf{m:aB}(h:m.ok){w:Wh}(hv:dX m w=true)(l:List Int)(a b bl:Int):dX m (Eu m w l a b bl).1=true:=by
 rcases Re h hv l a b bl with⟨e,c0, -,hm,hbl,ln,pl⟩ | ⟨e, -⟩
 · obtain⟨-, -,hs,ia,ib,hab⟩:=oX c0
   rw[e]
   exact sT h ln pl (by unfold inT at ib;omega) (Int.le_refl _) ib
 · rw[e];exact hv
end Go.Ev
namespace Go.Ev
open Go
variable [Lib] [cu] [bM] [gu] [gk] [i7] [fK] [fI] [iv] [gj] [dq] [cT]
def lexB:List Int→List Int→Bool
 | _,[]=>false
 | [],_::_=>true
 | a::r,b::s=>decide (a<b)||(decide (a=b)&&lexB r s)
theorem zh(a:Int)(l:List Int)(j:Nat):nth (a::l) (j+1)=nth l j:=by simp[nth]
theorem zi(a:Int)(l:List Int):nth (a::l) 0=a:=by simp[nth]
theorem tz:∀a b:List Int,u9 a b=lexB a b
 | a,[]=>by
   unfold u9 lexB
   simp
 | [],b::s=>by
   unfold u9 lexB
   simp
 | a::r,b::s=>by
   have ih:=tz r s
   unfold u9 at ih ⊢
   have e:min (a::r).length (b::s).length=min r.length s.length+1:=by simp only[List.length_cons];omega
   rw[e,List.range_succ_eq_map,List.find?_cons]
   simp only[zi]
   by_cases h:a=b
   · subst h
     simp only[ne_eq,not_true_eq_false,decide_false,aLt,List.find?_map,lexB,decide_true,Bool.true_and,Int.lt_irrefl,Bool.false_or]
     rw[← ih]
     have:((fun j=>decide (¬nth (a::r) j=nth (a::s) j)) ∘ Nat.succ)=fun j=>decide (nth r j≠nth s j):=by
      funext j
      simp only[Function.comp,Nat.succ_eq_add_one,zh,ne_eq]
     rw[this]
     cases (List.range (min r.length s.length)).find? (fun j=>decide (nth r j≠nth s j))with
     | some j=>simp only[aLw,Nat.succ_eq_add_one,zh]
     | none=>simp only[Option.map_none,List.length_cons,Nat.add_lt_add_iff_right]
   · simp only[ne_eq,h,not_false_eq_true,decide_true,lexB,decide_false,Bool.false_and,Bool.or_false,zi]
theorem lex_trans:∀ {a b c:List Int},lexB a b=true→lexB b c=true→lexB a c=true
 | _,_,[],_,h=>by simp[lexB]at h
 | [],_,_::_,_,_=>rfl
 | _::_,[],_,h,_=>by simp[lexB]at h
 | a::r,b::s,c::t,h1,h2=>by
   simp only[lexB,Bool.or_eq_true,aLr,decide_eq_true_eq]at h1 h2 ⊢
   rcases h1 with h1 | ⟨h1,k1⟩
   · rcases h2 with h2 | ⟨h2,k2⟩
     · left;omega
     · left;omega
   · rcases h2 with h2 | ⟨h2,k2⟩
     · left;omega
     · right;exact⟨by omega,lex_trans k1 k2⟩
theorem lex_irrefl:∀a:List Int,lexB a a=false
 | []=>rfl
 | a::r=>by simp[lexB,lex_irrefl r]
theorem Ib:∀a b:List Int,lexB a b=true∨a=b∨lexB b a=true
 | [],[]=> .inr (.inl rfl)
 | [],_::_=> .inl rfl
 | _::_,[]=> .inr (.inr rfl)
 | a::r,b::s=>by
   simp only[lexB,Bool.or_eq_true,aLr,decide_eq_true_eq,List.cons.injEq]
   rcases Ib r s with h | h | h
   · by_cases c:a<b
     · exact .inl (.inl c)
     · by_cases c2:a=b
       · exact .inl (.inr ⟨c2,h⟩)
       · exact .inr (.inr (.inl (by omega)))
   · by_cases c:a<b
     · exact .inl (.inl c)
     · by_cases c2:a=b
       · exact .inr (.inl ⟨c2,h⟩)
       · exact .inr (.inr (.inl (by omega)))
   · by_cases c:a<b
     · exact .inl (.inl c)
     · by_cases c2:a=b
       · exact .inr (.inr (.inr ⟨c2.symm,h⟩))
       · exact .inr (.inr (.inl (by omega)))
structure WV(m:aB)(first:List Int)(x:World):Prop where
 pm:x.tags.Perm first
 wl:x.whr.length=first.length
 wv:∀w∈x.whr,dX m w=true
structure BV(m:aB)(first:List Int)(ws:List World):Prop where
 pr:iG first=true
 f1:1≤first.length
 f2:first.length≤12
 wv:∀x∈ws,WV m first x
 up:ws.Pairwise fun x y=>lexB x.tags y.tags=true
theorem Ke{a b:List Int}(h:a.Perm b)(hb:iG b=true):iG a=true:=by
 rw[C7]at hb ⊢
 exact⟨h.nodup_iff.2 hb.1,fun x hx=>hb.2 x (h.mem_iff.1 hx)⟩
theorem BV.bel{m:aB}{first:List Int}{ws:List World}(h:BV m first ws)(h1:1≤ws.length)(h2:ws.length≤24):qq m ⟨ws⟩=true:=by
 have w0:=h.wv _ (ai (l:=ws) (j:=0) (by omega))
 have l0:=w0.pm.length_eq
 simp only[qq,aLr,decide_eq_true_eq,aLx,aLu,rS,Bool.or_eq_true,OE]
 have f1:=h.f1
 have f2:=h.f2
 refine⟨⟨⟨h1,h2⟩,by omega⟩,fun i hi=>?_⟩
 have wi:=h.wv _ (ai (l:=ws) (j:=i) hi)
 have li:=wi.pm.length_eq
 have wl:=wi.wl
 refine⟨⟨⟨by omega,Ke wi.pm h.pr⟩,?_⟩,fun k hk=>⟨?_,?_⟩⟩
 · by_cases c:i=0
   · exact .inl c
   · right
     rw[tz]
     have:=(List.pairwise_iff_getElem.1 h.up) (i-1) i (by omega) hi (by omega)
     rwa [← bC (aLc (by omega:i-1<ws.length)),←bC (aLc hi)]at this
 · exact nL.2 (w0.pm.symm.mem_iff.1 (wi.pm.mem_iff.1 (ai hk)))
 · exact wi.wv _ (ai (by omega))
theorem zj{m:aB}{ws:List World}(h:qq m ⟨ws⟩=true):BV m (nth ws 0).tags ws:=by
 obtain⟨h1,h2,h3,h4,h5⟩:=iR h
 simp only at h1 h2 h3 h4 h5
 have p0:=(kt (h5 0 (by omega))).2.2.1
 refine⟨p0,h3,h4,fun x hx=>?_,?_⟩
 · obtain⟨i,hi⟩:=aLf.1 hx
   have il:=(aLe.1 hi).1
   obtain⟨w1,w2,w3,w4⟩:=kt (h5 i il)
   rw[bC hi]at w1 w2 w3 w4
   refine⟨xd (kH w3) (kH p0) w1 fun y hy=>?_,w2,fun w hw=>?_⟩
   · obtain⟨j,hj⟩:=aLf.1 hy
     have:=(w4 j (aLe.1 hj).1).1
     rwa [bC hj]at this
   · obtain⟨j,hj⟩:=aLf.1 hw
     have:=(w4 j (by rw[w1,←w2];exact(aLe.1 hj).1)).2
     rwa [bC hj]at this
 · have key:∀d i,i+d+1<ws.length→lexB (nth ws i).tags (nth ws (i+d+1)).tags=true:=by
    intro d
    induction d with
    | zero=>
      intro i hi
      have:=h5 (i+1) hi
      simp only[rS,aLr,Bool.or_eq_true,decide_eq_true_eq]at this
      have:=this.1.2
      rw[← tz]
      simpa using this
    | succ d ih=>
      intro i hi
      have a:=ih i (by omega)
      have:=h5 (i+(d+1)+1) hi
      simp only[rS,aLr,Bool.or_eq_true,decide_eq_true_eq]at this
      have b:=this.1.2.resolve_left (by omega)
      rw[tz,show i+(d+1)+1-1=i+d+1 by omega]at b
      exact lex_trans a b
   rw[List.pairwise_iff_getElem]
   intro i j hi hj hij
   have:=key (j-i-1) i (by omega)
   rw[show i+(j-i-1)+1=j by omega,bC (aLc hi),bC (aLc hj)]at this
   exact this
end Go.Ev
namespace Go.Ev.K
open Go.Ev
end Go.Ev.K
namespace Go.Ev
class fT [Lib]:Prop where
namespace K
variable [Lib] [fT]
end K
end Go.Ev
namespace Go.Ev.K
open Go.Ev
def C8:C:= (.its [u (.bin .lss v7 v6)] [] 0 .skip (.exit 0) (.seq (.blk 1 (q [a 2 v5 v7,h 2 l0,w 4 (.al [z0,.nil] []),u (.st l0 l1 2 [])] [] (.reg [f 1 v3,g l0,f 0 v4,g l0,f 1 v4,g l0,u (.ca N.aV 0 [] [.l 0]),u (.bd [z0,.nil] [(0,1,.l 3),(1,1,.l 0)]),u (.bs [.l 0] 2),u (.app l7 l0 true 2),f 1 v3,u (.st l0 l1 1 [])] [(1,7),(1,9),(3,7)]))) (.reg [u (.bin .add v7 (.i 1)),x 7 l0] [])))
def DM:C:= .loop true [0,1,4] K.C8
def lV:Fn:= { aP:=1,vars:=[0,1,2,3,5,11,12,13],body:=(q [w 1 (.bx v0 2),w 2 (.al [.nil,.nil] [])] [] (q [f 0 v1,g l0,u (.ca N.aV 0 [] [.l 0]),u (.bd [.nil,.nil] [(0,1,.l 0)]),w 3 (.al [.nil,.nil] [(1,2)]),u (.st l0 l1 2 [(1,2)])] [] (.seq (q [f 1 v1,w 5 (.ld l0 1 false),w 6 (.ln l0),x 7 (.i 0)] [] (.blk 0 K.DM)) (q [h 2 v3,u (.st v2 l0 2 [])] [] .ret)))),res:=[(2,some (2,true))]}
def gB:C:= (.its [u (.bin .lss v20 v19)] [] 0 .skip (.exit 2) (.seq (.blk 3 (q [m v20,a 2 v18 v20,h 2 l0,w 12 (.al [z0,.nil] []),x 11 l3,u (.st l1 l2 2 [])] [] (q [h 2 v3,h 2 v12,m v2,u (.ca N.eH 0 [] [.l 2,.l 1,.l 0]),m l0,u (.ex l0 0),u (.ex l1 1),w 13 (.al [z0,.nil] []),u (.st l0 l2 2 []),x 14 l2] [] (.seq (.ite [m v14,u (.bin .eql l0 (.i 6))] [] 0 (q [h 1 v4,m v14,u (.st v5 l1 1 []),x 6 l1] [] .ret) .skip) (.seq (.ite [m v8,u (.bin .eql l0 (.i 0))] [] 0 (.reg [m v14,x 8 l0] []) .skip) (.reg [f 1 v10,g l0,m v11,h 2 v13,a 2 l2 l1,u (.st l0 l1 2 [])] [])))))) (.reg [u (.bin .add v20 (.i 1)),x 20 l0] [])))
def qW:C:= .loop true [0,1,6,9,11,12,13,14] K.gB
def iw:C:= (.its [u (.bin .lss v17 v16)] [] 0 .skip (.exit 0) (.seq (.blk 1 (q [a 2 v15 v17,h 2 l0,w 9 (.al [.nil,.nil] []),u (.st l0 l1 2 [])] [] (q [h 2 v9,u (.ca N.eR 1 [] [.l 0]),w 10 (.al [.nil,.nil] []),u (.st l0 l1 2 [])] [] (.seq (q [f 1 v9,w 18 (.ld l0 1 false),w 19 (.ln l0),x 20 (.i 0)] [] (.blk 2 K.qW)) (.reg [f 0 v7,g l0,h 2 v10,u (.bs [.l 0] 2),u (.app l2 l0 true 2),f 0 v7,u (.st l0 l1 1 [])] []))))) (.reg [u (.bin .add v17 (.i 1)),x 17 l0] [])))
def qX:C:= .loop true [0,1,6,9,10,11,12,13,14,18,19,20] K.iw
def fS:Fn:= { aP:=3,vars:=[0,1,2,3,4,6,7,8,9,11,12,13,14,15,16,29,30,31,38,39,40],body:=(q [w 3 (.bx v0 2),w 4 (.bx v1 1),w 5 (.al [.nil] []),x 6 (.i 0)] [] (.seq (.ite [h 2 v3,u (.ca N.dW 0 [] [.l 0]),u (.un .not l0),m l0,y 0 false (.fa v4 0),i 1 false l0,y 2 false (.ln l0),y 3 false (.ca N.eW 0 [] [.l 0,.i 1,.i 24]),y 4 false (.un .not l0),u (.pk l5 (.b true) l0)] [] 0 (q [h 1 v4,u (.st v5 l0 1 []),x 6 (.i 6)] [] .ret) .skip) (q [w 7 (.al [.nil] [(0,2)])] [] (q [x 8 (.i 0)] [] (.seq (q [f 0 v4,w 15 (.ld l0 1 false),w 16 (.ln l0),x 17 (.i 0)] [] (.blk 0 K.qX)) (.seq (.ite [m v8,u (.bin .neq l0 (.i 0))] [] 0 (q [h 1 v4,m v8,u (.st v5 l1 1 []),x 6 l1] [] .ret) .skip) (q [h 1 v7,u (.st v5 l0 1 []),x 6 (.i 0)] [] .ret))))))),res:=[(5,some (1,true)),(6,none)]}
def ku:C:= (.seq (.ite [m v8,f 0 v4,g l0,m v7,a 2 l1 l0,f 1 l0,g l0,u (.ln l0),u (.bin .lss l7 l0)] [] 0 .skip (.exit 2)) (.seq (.blk 3 (.ite [f 0 v4,g l0,m v7,a 2 l1 l0,f 1 l0,g l0,m v8,a 2 l1 l0,h 2 l0,f 0 v3,g l0,u (.ln l0),u (.ca N.eu 0 [] [.l 3,.l 0]),u (.un .not l0)] [] 0 (q [h 1 v4,u (.st v5 l0 1 []),x 6 (.i 6)] [] .ret) .skip)) (.reg [m v8,u (.bin .add l0 (.i 1)),x 8 l0] [])))
def qY:C:= .loop false [0,1,6,9,10,11,12,13] K.ku
def kv:C:= (.seq (.ite [m v7,f 0 v4,g l0,u (.ln l0),u (.bin .lss l3 l0)] [] 0 .skip (.exit 0)) (.seq (.blk 1 (q [x 8 (.i 0)] [] (.blk 2 K.qY))) (.reg [m v7,u (.bin .add l0 (.i 1)),x 7 l0] [])))
def qZ:C:= .loop false [0,1,6,8,9,10,11,12,13] K.kv
def jy:C:= (.seq (.ite [m v11,f 0 v4,g l0,m v10,a 2 l1 l0,f 1 l0,g l0,u (.ln l0),u (.bin .lss l7 l0)] [] 0 .skip (.exit 6)) (.seq (.blk 7 (q [w 12 (.al [z0,.nil] []),h 2 v3,f 0 v4,g l0,m v10,a 2 l1 l0,f 1 l0,g l0,m v11,a 2 l1 l0,h 2 l0,m v2,u (.ca N.fQ 0 [] [.l 10,.l 1,.l 0]),m l0,u (.ex l0 0),u (.ex l1 1),u (.st (.l 15) l1 2 []),x 13 l1] [(0,13)] (.seq (.ite [m v13,u (.bin .neq l0 (.i 0))] [] 0 (q [h 1 v4,m v13,u (.st v5 l1 1 []),x 6 l1] [] .ret) .skip) (.reg [f 0 v9,g l0,m v10,a 2 l1 l0,f 1 l0,g l0,m v11,h 2 v12,a 2 l2 l1,u (.st l0 l1 2 [])] [])))) (.reg [m v11,u (.bin .add l0 (.i 1)),x 11 l0] [])))
def xe:C:= .loop false [0,1,6,7,8,12,13] K.jy
def mU:C:= (.seq (.ite [m v10,f 0 v4,g l0,u (.ln l0),u (.bin .lss l3 l0)] [] 0 .skip (.exit 4)) (.seq (.blk 5 (q [x 11 (.i 0)] [] (.blk 6 K.xe))) (.reg [m v10,u (.bin .add l0 (.i 1)),x 10 l0] [])))
def xf:C:= .loop false [0,1,6,7,8,11,12,13] K.mU
def fe:Fn:= { aP:=3,vars:=[0,1,2,3,4,6,7,8,9,10,11,12,13,14],body:=(q [w 3 (.bx v0 2),w 4 (.bx v1 1),w 5 (.al [.nil] []),x 6 (.i 0)] [] (q [h 1 v4,u (.ca N.fh 0 [] [.l 0]),u (.st v4 l0 1 [])] [] (.seq (.ite [h 2 v3,u (.ca N.cW 0 [] [.l 0]),u (.bin .neq l0 (.i 0)),m l0,y 0 false (.fa v4 0),i 1 false l0,y 2 false (.ln l0),y 3 false (.bin .lss l0 (.i 1)),u (.pk l4 (.b true) l0),m l0,y 0 false (.fa v4 0),i 1 false l0,y 2 false (.ln l0),y 3 false (.bin .gtr l0 (.i 24)),u (.pk l4 (.b true) l0)] [] 0 (q [h 1 v4,u (.st v5 l0 1 []),x 6 (.i 6)] [] .ret) .skip) (.seq (q [x 7 (.i 0)] [] (.blk 0 K.qZ)) (q [h 1 v4,u (.ca N.gg 2 [] [.l 0]),w 9 (.al [.nil] []),u (.st l0 l1 1 [])] [] (.seq (q [x 10 (.i 0)] [] (.blk 4 K.xf)) (q [h 1 v9,u (.st v5 l0 1 []),x 6 (.i 0)] [] .ret))))))),res:=[(5,some (1,true)),(6,none)]}
def mV:C:= (.its [u (.bin .lss v7 v6)] [] 0 .skip (.exit 0) (.seq (.blk 1 (q [a 2 v5 v7,h 2 l0,w 4 (.al [z0,.nil] []),u (.st l0 l1 2 [])] [] (.reg [f 1 v3,g l0,f 0 v4,g l0,f 1 v4,g l0,u (.ca N.aV 1 [] [.l 0]),u (.bd [z0,.nil] [(0,1,.l 3),(1,1,.l 0)]),u (.bs [.l 0] 2),u (.app l7 l0 true 2),f 1 v3,u (.st l0 l1 1 [])] [(1,7),(1,9),(3,7)]))) (.reg [u (.bin .add v7 (.i 1)),x 7 l0] [])))
def rX:C:= .loop true [0,1,4] K.mV
def eR:Fn:= { aP:=1,vars:=[0,1,2,3,5,11,12,13],body:=(q [w 1 (.bx v0 2),w 2 (.al [.nil,.nil] [])] [] (q [f 0 v1,g l0,u (.ca N.aV 1 [] [.l 0]),u (.bd [.nil,.nil] [(0,1,.l 0)]),w 3 (.al [.nil,.nil] [(1,2)]),u (.st l0 l1 2 [(1,2)])] [] (.seq (q [f 1 v1,w 5 (.ld l0 1 false),w 6 (.ln l0),x 7 (.i 0)] [] (.blk 0 K.rX)) (q [h 2 v3,u (.st v2 l0 2 [])] [] .ret)))),res:=[(2,some (2,true))]}
end Go.Ev.K
namespace Go.Ev
class ff [Lib]:Prop where
 zl:Lib.fs N.lV=some K.lV
 tA:Lib.fs N.fS=some K.fS
 tB:Lib.fs N.fe=some K.fe
 oD:Lib.fs N.eR=some K.eR
namespace K
variable [Lib] [ff]
theorem zl:Lib.fs N.lV=some K.lV:=ff.zl
theorem tA:Lib.fs N.fS=some K.fS:=ff.tA
theorem tB:Lib.fs N.fe=some K.fe:=ff.tB
theorem oD:Lib.fs N.eR=some K.eR:=ff.oD
end K
end Go.Ev
namespace Go.Ev
open Go
variable [Lib] [cu] [bM] [gu] [gk] [i7] [fK] [fI] [iv] [gj] [dq] [cT] [fT] [ff]
theorem Nx(x:World)(h:x.sz):∀z0 z1 z4:D,exS aD K.rX ⟨[z0,z1,.bp 1 0,.bp 3 0,z4,.t (.sl (x.whr.map Wh.e)),I x.whr.length,I 0],[.box [.t (tL x.tags),.t (.sl (x.whr.map Wh.e))],.box [.nil,.nil],kF x.tags,.box [.ref 2 0 x.tags.length,.ref 5 0 0],.arr 2 false 0 [],.arr 2 false 0 []]⟩=
 some (.exit 0,⟨[.und,.und,.bp 1 0,.bp 3 0,.und,.t (.sl (x.whr.map Wh.e)),I x.whr.length,I x.whr.length],[.box [.t (tL x.tags),.t (.sl (x.whr.map Wh.e))],.box [.nil,.nil],kF x.tags,.box [.ref 2 0 x.tags.length,.ref 5 0 x.whr.length],.arr 2 false 0 [],.arr 2 false 0 ((x.whr.map Wh.e).map .t)]⟩):=by
 intro z0 z1 z4
 obtain⟨tags,whr⟩:=x
 obtain⟨h1,h2,h3⟩:=h
 simp only at h1 h2 h3 ⊢
 have tk:whr.take whr.length=whr:=by simp
 refine bk (fun j=>⟨[.und,.und,.bp 1 0,.bp 3 0,.und,.t (.sl (whr.map Wh.e)),I whr.length,I j],[.box [.t (tL tags),.t (.sl (whr.map Wh.e))],.box [.nil,.nil],kF tags,.box [.ref 2 0 tags.length,.ref 5 0 (whr.take j).length],.arr 2 false 0 [],.arr 2 false 0 (((whr.take j).map Wh.e).map .t)]⟩) whr.length rfl ?_ ?_ (by simp)
 · intro j hj
   have c:=y9 (nth whr j).frm (h3 _ (ai hj))
   have ex:(whr.map Wh.e)[j]?=some (nth whr j).e:=b8 _ hj
   have lt:(whr.take j).length=j:=by rw[List.length_take];omega
   have tk:whr.take (j+1)=whr.take j++[nth whr j]:=oV hj
   generalize nth whr j=w at*
   generalize whr.take j=pre at*
   obtain⟨time,frm⟩:=w
   simp only[kF]at*
   simp(disch:=omega)only[go_sem,K.mV,↓reduceIte,ex,c,lt,tk,List.map_append,List.map_cons,List.map_nil,aLv,List.length_cons,List.length_nil,reduceAdd,reduceSub]
 · simp only[kF]
   simp(disch:=omega)only[go_sem,K.mV,↓reduceIte,tk,reduceAdd,reduceSub]
theorem Up(x:World)(h:x.sz):aD 1 N.eR [.t x.e] []=some (.agg [.ref 0 0 x.tags.length,.ref 1 0 x.whr.length],[.arr 1 false 0 ((x.tags.map (T.int .i64)).map .t),.arr 2 false 0 ((x.whr.map Wh.e).map .t)]):=by
 refine ao K.oD rfl ?_
 have loop:=Nx x h
 have c:=y9 x.tags h.1
 obtain⟨tags,whr⟩:=x
 obtain⟨h1,h2,h3⟩:=h
 simp only[kF]at h1 h2 h3 loop c ⊢
 simp(disch:=omega)only[go_sem,K.eR,↓reduceIte,loop,c,reduceAdd,reduceSub]
end Go.Ev
namespace Go.Ev
open Go
variable [Lib] [cu] [bM] [gu] [gk] [i7] [fK] [fI] [iv] [gj]
theorem Kf{m:aB}(h:m.ok){w:Wh}{t:Int}(h0:(dr m w t).2=0):dX m (dr m w t).1=true:=by
 unfold dr at h0 ⊢
 cases hp:lu w m.aa.length with
 | false=>rw[hp]at h0;simp at h0
 | true=>
   rw[hp]at h0
   rw[if_neg (by simp)]at h0 ⊢
   split at h0
   · simp at h0
   · rename_i hc
     rw[if_neg hc]
     obtain⟨p1,p2,p3⟩:=lU hp
     unfold inT at p2
     exact sT h (by omega) p3 (by omega) (Int.le_refl _) (by unfold inT;omega)
end Go.Ev
namespace Go.Ev
open Go
variable [Lib] [cu] [bM] [gu] [gk] [i7] [fK] [fI] [iv] [gj] [dq] [cT]
theorem Ny{l:List Int}{i j:Nat}(hi:i<l.length)(hj:j<l.length):(Nq l i j).Perm l:=by
 have:=Array.swap_perm (xs:=l.toArray) (i:=i) (j:=j) (by simpa using hi) (by simpa using hj)
 rw[Array.perm_iff_toList_perm]at this
 unfold Nq
 rw[bC (aLc hi),bC (aLc hj)]
 simpa [Array.swap]using this
theorem zm{m:aB}{l:List Wh}(hl:∀w∈l,dX m w=true)(i:Nat){x:Wh}(hx:i<l.length→dX m x=true):∀w∈l.set i x,dX m w=true:=by
 intro w hw
 by_cases h:i<l.length
 · rcases aLk hw with a | rfl
   · exact hl w a
   · exact hx h
 · rw[List.set_eq_of_length_le (by omega)]at hw;exact hl w hw
theorem C9{m:aB}(h:m.ok){w:Wh}(hv:dX m w=true)(t:Int):dX m (oL w t).1=true:=by
 unfold oL
 split
 · exact hv
 · obtain⟨a,b,c, -⟩:=eZ hv
   have cl:=CQ h hv
   unfold inT at b
   exact CP h a (by simp only;unfold inT;omega) c (Lz (t':=t) (by omega) cl)
theorem Rg{m:aB}{first:List Int}{x:World}(h:WV m first x)(tag:Int){w:Wh}(hw:(cN x.tags tag).toNat<x.whr.length→dX m w=true):WV m first (J7 tag x w):=
 ⟨h.pm,by simp[J7,h.wl],zm h.wv _ hw⟩
def ahY(m:aB)(tag:Int)(l:List Int)(a b:Int)(x:World):Option World:=
 if(EF m tag l a b x).2=43 then none else some (if(EF m tag l a b x).2=0 then J7 tag x (EF m tag l a b x).1 else x)
theorem LV(m:aB)(tag:Int)(l:List Int)(a b:Int)(ws:List World):∀j,j≤ws.length→pS m tag l a b ws j=(ws.take j).filterMap (ahY m tag l a b)
 | 0,_=>by simp[pS]
 | j+1,h=>by
   rw[oV (by omega),List.filterMap_append]
   simp only[pS,LV m tag l a b ws j (by omega),HU,ahY,List.filterMap_cons,List.filterMap_nil]
   split<;>simp_all
theorem LW(m:aB)(tag:Int)(l:List Int)(a b bl:Int)(ws:List World):∀j,j≤ws.length→rV m tag l a b bl ws j=(ws.take j).map fun x=>if(EG m tag l a b bl x).2=0 then J7 tag x (EG m tag l a b bl x).1 else x
 | 0,_=>by simp[rV]
 | j+1,h=>by
   rw[oV (by omega),List.map_append]
   simp only[rV,LW m tag l a b bl ws j (by omega),J8,List.map_cons,List.map_nil]
theorem Kg{m:aB}(hm:m.ok){first:List Int}{tag:Int}{l:List Int}{a b:Int}{x y:World}(h:WV m first x)(e:ahY m tag l a b x=some y):WV m first y∧y.tags=x.tags:=by
 unfold ahY at e
 split at e
 · cases e
 · simp only[Option.some.injEq]at e
   subst e
   split
   · exact⟨Rg h tag fun hl=>Rb hm (h.wv _ (ai hl)) l a b,rfl⟩
   · exact⟨h,rfl⟩
theorem afB{m:aB}(hm:m.ok){first:List Int}{ws:List World}(h:BV m first ws)(tag:Int)(l:List Int)(a b:Int):BV m first (pS m tag l a b ws ws.length):=by
 rw[LV m tag l a b ws _ (aLs _),List.take_length]
 refine⟨h.pr,h.f1,h.f2,fun y hy=>?_,?_⟩
 · obtain⟨x,hx,e⟩:=List.mem_filterMap.1 hy
   exact(Kg hm (h.wv x hx) e).1
 · rw[List.pairwise_filterMap]
   refine(List.Pairwise.imp_of_mem ?_ h.up)
   intro x y hx hy hxy x' ex y' ey
   rw[(Kg hm (h.wv x hx) ex).2,(Kg hm (h.wv y hy) ey).2]
   exact hxy
theorem afC{m:aB}(hm:m.ok){first:List Int}{ws:List World}(h:BV m first ws)(tag:Int)(l:List Int)(a b bl:Int):BV m first (rV m tag l a b bl ws ws.length):=by
 rw[LW m tag l a b bl ws _ (aLs _),List.take_length]
 have tg:∀x:World,(if(EG m tag l a b bl x).2=0 then J7 tag x (EG m tag l a b bl x).1 else x).tags=x.tags:=by
  intro x;split<;>rfl
 refine⟨h.pr,h.f1,h.f2,fun y hy=>?_,?_⟩
 · obtain⟨x,hx,rfl⟩:=List.mem_map.1 hy
   have wx:=h.wv x hx
   split
   · exact Rg wx tag fun hl=>Rf hm (wx.wv _ (ai hl)) l a b bl
   · exact wx
 · rw[List.pairwise_map]
   refine h.up.imp fun{x y} hxy=>?_
   rw[tg,tg];exact hxy
theorem Uq{m:aB}(hm:m.ok){first:List Int}{x:World}(h:WV m first x){i j:Nat}(hi:i<first.length)(hj:j<first.length)(t:Int):WV m first (xX i j t x):=by
 have wl:=h.wl
 have tl:=h.pm.length_eq
 refine⟨(Ny (by omega) (by omega)).trans h.pm,by simp[xX,wl],?_⟩
 exact zm (zm h.wv i fun hl=>C9 hm (h.wv _ (ai hl)) t) j fun hl=>C9 hm (h.wv _ (ai (by simpa using hl))) t
theorem zn{m:aB}(hm:m.ok){first:List Int}{ws:List World}(h:∀x∈ws,WV m first x){i j:Nat}(hi:i<first.length)(hj:j<first.length)(t:Int):∀k,k≤ws.length→∀x∈kh i j t ws k,WV m first x
 | 0,_,x,hx=>h x hx
 | k+1,hk,x,hx=>by
   simp only[kh,C3]at hx
   split at hx
   · rcases List.mem_append.1 hx with hx | hx
     · exact zn hm h hi hj t k (by omega) x hx
     · rw[List.mem_singleton.1 hx]
       exact Uq hm (h _ (ai (by omega))) hi hj t
   · exact zn hm h hi hj t k (by omega) x hx
theorem Da{m:aB}(hm:m.ok){a b:List Wh}(ha:∀w∈a,dX m w=true)(hb:∀w∈b,dX m w=true):∀p,p≤a.length→p≤b.length→∀w∈oC a b p,dX m w=true
 | 0,_,_,w,hw=>ha w hw
 | p+1,h1,h2,w,hw=>by
   refine zm (Da hm ha hb p (by omega) (by omega)) p (fun _=>?_) w hw
   exact(Nw hm (ha _ (ai (by omega))) (hb _ (ai (by omega)))).2.1
theorem Ur{out:List World}{x:World}{k:Nat}(h:k<jx out x):lexB (nth out k).tags x.tags=true:=by
 unfold jx at h
 split at h
 · rename_i j hf
   rw[List.find?_range_eq_some]at hf
   have:=hf.2.2 k h
   rw[← tz];simpa using this
 · rename_i hf
   have:=List.find?_eq_none.1 hf k (aLu.2 h)
   rw[← tz];simpa using this
theorem Us{out:List World}{x:World}(h:jx out x<out.length):lexB (nth out (jx out x)).tags x.tags=false:=by
 unfold jx at h ⊢
 split
 · rename_i j hf
   rw[List.find?_range_eq_some]at hf
   have:=hf.1
   rw[← tz];simpa using this
 · rename_i hf
   rw[hf]at h;simp at h
theorem Ut{m:aB}(hm:m.ok){first:List Int}{out:List World}(h:BV m first out){x:World}(hx:WV m first x):BV m first (tn out x):=by
 have kl:=FF out x
 unfold tn
 split
 · rename_i c
   obtain⟨c1,c2⟩:=c
   have wk:=h.wv _ (ai c1)
   have w1:=wk.wl
   have w2:=hx.wl
   refine⟨h.pr,h.f1,h.f2,fun y hy=>?_,?_⟩
   · rcases aLk hy with a | rfl
     · exact h.wv y a
     · exact⟨hx.pm,by rw[EH,rW];exact w1,Da hm wk.wv hx.wv _ (by omega) (by omega)⟩
   · have u:=h.up
     rw[← List.pairwise_map (f:=World.tags) (R:=fun a b=>lexB a b=true)]at u ⊢
     rw[List.map_set]
     have e:(out.map World.tags).set (jx out x) x.tags=out.map World.tags:=by
      apply List.ext_getElem?
      intro i
      by_cases hi:jx out x=i
      · rw[← hi,aLj (by simpa using c1),aLn,cG c1,←c2];rfl
      · rw[aLi hi]
     rw[e];exact u
 · rename_i c
   refine⟨h.pr,h.f1,h.f2,fun y hy=>?_,?_⟩
   · simp only[List.mem_append,List.mem_singleton]at hy
     rcases hy with(hy | rfl) | hy
     · exact h.wv y (List.mem_of_mem_take hy)
     · exact hx
     · exact h.wv y (List.mem_of_mem_drop hy)
   · have u:=h.up
     have lo:∀y∈out.take (jx out x),lexB y.tags x.tags=true:=by
      intro y hy
      obtain⟨i,hi⟩:=aLf.1 hy
      have il:=(aLe.1 hi).1
      rw[List.length_take]at il
      rw[List.getElem?_take_of_lt (by omega)]at hi
      have:=Ur (out:=out) (x:=x) (k:=i) (by omega)
      rwa [bC hi]at this
     have hi:∀y∈out.drop (jx out x),lexB x.tags y.tags=true:=by
      intro y hy
      obtain⟨i,hi⟩:=aLf.1 hy
      have il:=(aLe.1 hi).1
      rw[List.length_drop]at il
      rw[List.getElem?_drop]at hi
      have c1:jx out x<out.length:=by omega
      have at_:=Us c1
      have ne:(nth out (jx out x)).tags≠x.tags:=fun e=>c ⟨c1,e⟩
      have first_:lexB x.tags (nth out (jx out x)).tags=true:=by
       rcases Ib (nth out (jx out x)).tags x.tags with a | a | a
       · rw[a]at at_;cases at_
       · exact absurd a ne
       · exact a
      by_cases i0:i=0
      · subst i0
        rw[Nat.add_zero]at hi
        rwa [bC hi]at first_
      · have:=(List.pairwise_iff_getElem.1 u) (jx out x) (jx out x+i) (by omega) (by omega) (by omega)
        rw[← bC (aLc (by omega:jx out x<out.length)),←bC (aLc (by omega:jx out x+i<out.length)),bC hi]at this
        exact lex_trans first_ this
     have td:out.take (jx out x)++out.drop (jx out x)=out:=List.take_append_drop _ _
     have u2:=u
     rw[← td,List.pairwise_append]at u2
     rw[List.append_assoc,List.pairwise_append]
     refine⟨u2.1,?_,fun y hy z hz=>?_⟩
     · rw[List.singleton_append,List.pairwise_cons];exact⟨hi,u2.2.1⟩
     · simp only[List.singleton_append,List.mem_cons]at hz
       rcases hz with rfl | hz
       · exact lo y hy
       · exact u2.2.2 y hy z hz
theorem FM{m:aB}(hm:m.ok){first:List Int}(pr:iG first=true)(f1:1≤first.length)(f2:first.length≤12){l:List World}(hl:∀x∈l,WV m first x):∀j,j≤l.length→BV m first (vh l j)
 | 0,_=>⟨pr,f1,f2,fun x hx=>by simp[vh]at hx,by simp[vh]⟩
 | j+1,h=>Ut hm (FM hm pr f1 f2 hl j (by omega)) (hl _ (ai (by omega)))
theorem afD{a b:List Int}(h:lexB a b=true):a≠b:=fun e=>by rw[e,lex_irrefl]at h;cases h
structure SH(n p:Nat)(l:List Wh):Prop where
 ln:l.length=n
 fr:∀w∈l,w.frm.length=p
theorem WV.sh{m:aB}{first:List Int}{x:World}(h:WV m first x):SH first.length m.aa.length x.whr:=
 ⟨h.wl,fun w hw=>(eZ (h.wv w hw)).1⟩
end Go.Ev
namespace Go.Ev
open Go
variable [Lib] [cu] [bM] [gu] [gk] [i7] [fK] [fI] [iv] [gj] [dq] [cT] [fT] [ff]
theorem Rp.more{H:aq}{id:Nat}{es:List D}{fa fb:Nat→Nat}{out:List World}(hr:Rp H id es fa fb out)(t:aq):Rp (H++t) id es fa fb out:=
 ⟨by rw[lx (nY hr.arr)];exact hr.arr,hr.len,hr.el,fun j hj=>by rw[lx (nY (hr.ha j hj))];exact hr.ha j hj,fun j hj=>by rw[lx (nY (hr.hb j hj))];exact hr.hb j hj,hr.na,hr.nb,hr.nab,hr.nbb⟩
end Go.Ev
namespace Go.Ev
open Go
variable [Lib] [cu] [bM] [gu] [gk] [i7] [fK] [fI] [iv] [gj] [dq] [cT]
theorem Nz{m:aB}(h:m.ok)(b:Bel)(hs:b.sz):aD 0 N.gO [.t m.e,.t b.e] []=some (B (qq m b),[]):=by
 rw[← Uo]
 refine ao K.s9 rfl ?_
 obtain⟨h1,h2⟩:=hs
 have v:=iQ h
 obtain⟨ws⟩:=b
 simp only at h1 h2
 have li:=Bq ws.length 1 24
 unfold Un
 simp only
 by_cases c:1≤ws.length∧ws.length≤24
 · have li:aD 0 N.eW [I ws.length,I 1,I 24] []=some (B true,[]):=by rw[li,decide_eq_true (by omega)]
   have e0:(ws.map World.e)[0]?=some (nth ws 0).e:=b8 _ (by omega)
   have sz:=(h2 _ (ai (l:=ws) (j:=0) (by omega))).1
   have loop:=fun a b c d e=>nZ (gc:=true) (dead:=[0,1,4,6,7]) (c:=K.cA) (vs:=[a,b,.bp 0 0,.bp 1 0,c,.t (tL (je (nth ws 0).tags)),d,e,.t (.sl (ws.map World.e)),I ws.length,I 0]) (H:=[.box (ae m),.box [.t (.sl (ws.map World.e))],.box [.t (tL (nth ws 0).tags)]])
    (swS m ws (nth ws 0).tags) ws.length (fun j=> !pwB m ws (nth ws 0).tags j) (fun _ q=>q.1= .ret∧q.2.vs[4]?=some (B false))
    (.exit 0,swS m ws (nth ws 0).tags ws.length) rfl
    (fun j hj hp=>(Q8 h ws _ sz h2 j hj h1).1 (by simpa using hp))
    (fun j hj hp=>by
     obtain⟨q,q1,q2,q3⟩:=(Q8 h ws _ sz h2 j hj h1).2 (by simpa using hp)
     exact⟨q,q1,by rw[q2];simp,q2,q3⟩)
    (by simp(disch:=omega)only[go_sem,K.cA,swS,↓reduceIte,reduceAdd,reduceSub]) (by simp)
   rw[sP]
   have va:=CY (nth ws 0).tags
   have so:=CZ (nth ws 0).tags sz
   have loop:=loop (.t m.e) (.t (Bel.e ⟨ws⟩)) (B false) .und .und
   generalize nth ws 0=x at*
   obtain⟨first,whr⟩:=x
   simp only[swS]at*
   generalize je first=sf at*
   rcases loop with⟨e1,e2⟩ | ⟨j,⟨x,vs,H⟩,e1,e2,e3,e4⟩
   · have e2:exS aD K.qT _=_:=e2
     simp(disch:=omega)only[go_sem,K.gO,↓reduceIte,v,li,e0,va,so,c,and_self,decide_true,Bool.true_and,e1,e2,Option.isNone,reduceAdd,reduceSub]
   · have e2:exS aD K.qT _=_:=e2
     simp only at e3 e4
     subst e3
     simp(disch:=omega)only[go_sem,K.gO,↓reduceIte,v,li,e0,va,so,c,and_self,decide_true,Bool.true_and,e1,e2,Option.isNone,reduceAdd,reduceSub]
     simp(disch:=omega)only[go_sem,ko,e4,List.take_zero]
 · have li:aD 0 N.eW [I ws.length,I 1,I 24] []=some (B false,[]):=by rw[li,decide_eq_false (by omega)]
   simp(disch:=omega)only[go_sem,K.gO,↓reduceIte,v,li,c,decide_false,Bool.false_and,reduceAdd,reduceSub]
end Go.Ev
namespace Go.Ev
open Go
variable [Lib] [cu] [bM] [fK] [fI]
abbrev Uu:Int:=2147483648
section
variable {m : aB} (h : m.ok) {fl : List Spn}
include h
end
end Go.Ev
namespace Go.Ev
open Go
theorem EJ{α:Type}{f:α→α×Bool}(P:α→Prop)(hP:∀l,P l→P (f l).1):∀n l,P l→P (ju f n l)
 | 0,l,h=>h
 | n+1,l,h=>by
   unfold ju
   split
   · exact EJ P hP n _ (hP l h)
   · exact hP l h
def clP(m:aB)(fl:List Spn)(y:List Int):Prop:=∀k,k<m.roads.length→∀back,0≤Ao (nth m.roads k) (nth fl k) back→
 nth y ((nth m.roads k).src back).toNat+Ao (nth m.roads k) (nth fl k) back≤Uu→
 nth y ((nth m.roads k).dst back).toNat≤nth y ((nth m.roads k).src back).toNat+Ao (nth m.roads k) (nth fl k) back
variable [Lib] [cu] [bM] [fK] [fI]
end Go.Ev
namespace Go.Ev
open Go
variable [Lib] [cu] [bM] [fK] [fI]
def akf(l:List Int):Prop:=∀x∈l,0≤x∧(x≤Uu∨x=1099511627776)
theorem akf.bnd{l:List Int}(h:akf l):bnd l:=fun x hx=>by have:=h x hx;simp only[Uu]at this;omega
end Go.Ev
namespace Go.Ev
open Go
variable [Lib] [cu] [bM] [gu] [gk] [fK] [fI]
theorem qv{l:List Int}{n:Int}(h:lr l n=true):∀x∈l,0≤x∧x<n:=by
 intro x hx
 simp only[lr,aLx,aLu,decide_eq_true_eq]at h
 obtain⟨j,hj⟩:=aLf.1 hx
 have:=h j (aLe.1 hj).1
 rw[bC hj]at this
 exact⟨this.1,this.2.1⟩
theorem afE{p:Int}{n:Int}(h0:0≤p)(h1:p<n):lr [p] n=true:=by
 simp only[lr,aLx,aLu,decide_eq_true_eq]
 intro j hj
 obtain rfl:j=0:=by simpa using hj
 exact⟨h0,h1,fun h=>absurd h (by omega)⟩
structure afF(m:aB)(fl:List Spn)(s:Wh):Prop where
 ln:s.frm.length=m.aa.length
 ti:inT s.time
 tm:akf s.frm
 lo:∀x∈s.frm,s.time≤x
 cl:clP m fl s.frm
theorem afF.valid{m:aB}{fl:List Spn}{s:Wh}(h:afF m fl s):Ql m s=true:=by
 simp only[Ql,aLr,decide_eq_true_eq,aLx,aLu]
 refine⟨fun j hj=>?_,h.ln,h.ti⟩
 have a:=h.tm _ (ai hj)
 have b:=h.lo _ (ai hj)
 unfold plS
 simp only[Uu]at a
 omega
end Go.Ev
namespace Go.Ev
open Go
variable [Lib] [cu] [bM] [gu] [gk] [i7] [fK] [fI] [iv] [gj] [dq] [cT]
section
variable {m : aB} (hm : m.ok) (l : List Mch) (hl : l.length ≤ 1000) (hp : ∀ x ∈ l, x.pl.length ≤ 1000000) (s : Wh) (hs : s.frm.length ≤ 1000000) (b : Bel) (hb : b.sz) (t a : Int)
include hm hl hp hs hb
end
end Go.Ev
namespace Go.Ev
open Go
variable [Lib] [cu] [bM] [gu] [gk] [fK] [fI]
theorem afG{d:aG}(hd:d.dQ)(n:Nat)(hn:n≤1000000):
 ∃(l:List Int) (e:aG),aD 0 N.di [.bp 0 0,I n] [d.obj]=some (.t (tL l),[e.obj])∧e.dQ∧l.length≤n:=
 ⟨_,_,PW d n hn hd,aG.nD hd n,d.yW n⟩
end Go.Ev
namespace Go.Ev
open Go
variable [Lib] [cu] [bM]
def sh(s x:Int):Int:=if x<1099511627776 then x+s else x
end Go.Ev
namespace Go.Ev
open Go
variable [Lib] [cu] [bM] [gu] [gk] [i7] [fK] [fI] [iv] [gj]
theorem Db(l:List Int)(x:Int){j:Nat}(hj:j<l.length):nth (l++[x]) j=nth l j:=by
 unfold nth;simp[aLl,aLg hj]
theorem Rh(l:List Int)(x:Int):nth (l++[x]) l.length=x:=by
 unfold nth;simp[aLl]
theorem n9{l:List Int}{n:Nat}(h:lr l n=true):lr l ((n+1:Nat):Int)=true∧lr (l++[(n:Int)]) ((n+1:Nat):Int)=true:=by
 simp only[lr,aLx,aLu,decide_eq_true_eq]at h ⊢
 refine⟨fun j hj=>?_,fun j hj=>?_⟩
 · obtain⟨a,b,c⟩:=h j hj;exact⟨a,by omega,c⟩
 · by_cases c:j<l.length
   · obtain⟨a,b,c⟩:=h j c
     rw[Db _ _ (by omega)]
     refine⟨a,by omega,fun hj=>?_⟩
     rw[Db _ _ (by omega)];exact c hj
   · have e:j=l.length:=by simp at hj;omega
     subst e
     rw[Rh]
     refine⟨by omega,by omega,fun hj=>?_⟩
     rw[Db _ _ (by omega)]
     exact(h (l.length-1) (by omega)).2.1
end Go.Ev
namespace Go.Ev
open Go
variable [Lib] [cu] [bM] [gu] [gk] [i7] [fK] [fI] [iv] [gj] [dq] [cT]
theorem aae{m:aB}(hm:m.ok){b:Bel}(hb:qq m b=true)(tag:Int)(l:List Int)(a c:Int):qq m (vf m b tag l a c).1=true:=by
 unfold vf
 split
 · exact hb
 · split
   · exact hb
   · split
     · exact hb
     · rename_i h
       obtain⟨ws⟩:=b
       have bv:=afB hm (zj hb) tag l a c
       have ln:=zd m tag l a c ws ws.length
       obtain⟨h1,h2, -⟩:=iR hb
       simp only at h1 h2 h ⊢
       exact bv.bel (by omega) (by omega)
theorem aaf{m:aB}(hm:m.ok){b:Bel}(hb:qq m b=true)(tag:Int)(l:List Int)(a c bl:Int):qq m (vg m b tag l a c bl).1=true:=by
 unfold vg
 split
 · exact hb
 · split
   · exact hb
   · obtain⟨ws⟩:=b
     have bv:=afC hm (zj hb) tag l a c bl
     have ln:=ze m tag l a c bl ws ws.length
     obtain⟨h1,h2, -⟩:=iR hb
     simp only at h1 h2 ⊢
     exact bv.bel (by omega) (by omega)
theorem Uv{m:aB}(hm:m.ok){b:Bel}(hb:qq m b=true)(i j t:Int):qq m (pT m b i j t).1=true:=by
 unfold pT
 split
 · exact hb
 · split
   · exact hb
   · rename_i hij
     split
     · exact hb
     · split
       · exact hb
       · rename_i hl
         obtain⟨ws⟩:=b
         have bv:=zj hb
         obtain⟨h1,h2, -⟩:=iR hb
         simp only at h1 h2 hl hij ⊢
         have nb:=zn hm bv.wv (i:=i.toNat) (j:=j.toNat) (by omega) (by omega) t ws.length (aLs _)
         have el:=vY i.toNat j.toNat t ws ws.length
         have tv:=FM hm bv.pr bv.f1 bv.f2 nb _ (aLs _)
         refine BV.bel tv ?_ (Nat.not_lt.1 hl)
         have t1:∀k,1≤k→1≤(vh (kh i.toNat j.toNat t ws ws.length) k).length:=by
          intro k hk
          obtain⟨k,rfl⟩:∃k',k=k'+1:=⟨k-1,by omega⟩
          exact(zg _ _).2.2
         exact t1 _ (by omega)
theorem Aw{m:aB}(hm:m.ok){n:Int}{s:BSt}(hb:qq m s.b=true):∀k,qq m (aG.Au m n s k).b=true
 | 0=>hb
 | k+1=>by
   have ih:=Aw hm (n:=n) hb k
   simp only[aG.Au]
   generalize aG.Au m n s k=q at*
   unfold aG.mT
   simp only
   split
   · simp only
     split
     · exact Uv hm ih _ _ _
     · exact ih
   · split
     · simp only
       split
       · exact aae hm ih _ _ _ _
       · exact ih
     · simp only
       split
       · exact aaf hm ih _ _ _ _ _
       · exact ih
theorem EK{m:aB}(hm:m.ok)(h1:1≤m.aa.length)(d:aG):qq m (d.OH m).b=true:=by
 have pb:=C6 d
 have tl:=mS d.qV
 have sl:(d.oM m).1.length=d.qV:=aG.mh _ _ _
 have t0:=(d.oM m).2.fA 100
 have t9:=(d.oM m).2.fB (n:=100) (by omega)
 have pr:=A9 (n:=d.qV) (by omega)
 unfold aG.OH
 rw[FI hm h1]
 refine BV.bel (first:=tu d.qV) ⟨pr,by omega,by omega,fun x hx=>?_,by simp⟩ (by simp) (by simp)
 rw[List.mem_singleton.1 hx]
 refine⟨List.Perm.refl _,by simp,fun w hw=>?_⟩
 simp only[jw,List.mem_map,aLu]at hw
 obtain⟨i,hi,rfl⟩:=hw
 have hi:i<(d.oM m).1.length:=by rw[sl,←tl];exact hi
 have:=vj (d.next 3).2 (n:=m.aa.length) (by omega) d.qV _ (ai hi)
 exact(CR hm this.1 this.2 ⟨by omega,by omega⟩).2
theorem Ic{m:aB}(hm:m.ok)(h1:1≤m.aa.length)(d:aG):qq m (d.vi m).1=true:=Aw hm (EK hm h1 d) _
end Go.Ev
namespace Go.Ev
open Go
variable [Lib] [cu] [bM] [gu] [gk] [i7] [fK] [fI] [iv] [gj] [dq] [cT] [fT] [ff]
theorem NA{α:Type} [Dat α](l:List α)(i:Nat)(h:i<l.length):l.set i (nth l i)=l:=by
 rw[bC (aLc h),List.set_getElem_self]
end Go.Ev
