/- Parts of the proof: see the text that holds the theorem. -/
import Derived.Test.YtifghciaddehaaaGreatZ3
set_option linter.all false
open Nat (reduceAdd reduceSub)
set_option maxRecDepth 100000
namespace Go.Ev.K
open Go.Ev
def ed:Fn:= { aP:=3,vars:=[0,1,2,3,4,6,7],body:=(q [w 3 (.bx v0 2),w 4 (.bx v1 2),w 5 (.al [z0,.nil] []),x 6 (.i 0)] [] (.seq (.ite [h 2 v3,u (.ca N.ec 0 [] [.l 0]),u (.un .not l0),m l0,y 0 false (.ld v3 2 true),y 1 false (.ld v4 2 true),y 2 false (.ca N.dB 0 [] [.l 1,.l 0]),y 3 false (.un .not l0),u (.pk l4 (.b true) l0)] [] 0 (q [h 2 v4,u (.st v5 l0 2 []),x 6 (.i 6)] [] .ret) .skip) (.seq (.ite [m v2,f 0 v4,g l0,u (.bin .lss l2 l0),m l0,e 0 false v2,y 1 false (.bin .gtr l0 (.i 2147483648)),u (.pk l2 (.b true) l0)] [] 0 (q [h 2 v4,u (.st v5 l0 2 []),x 6 (.i 8)] [] .ret) .skip) (q [m v2,h 2 v3,f 1 v4,g l0,m v2,u (.ca N.cU 0 [] [.l 3,.l 1,.l 0,.c (.fn N.fG [])]),u (.bd [z0,.nil] [(0,1,.l 5),(1,1,.l 0)]),u (.st v5 l0 2 []),x 6 (.i 0)] [] .ret)))),res:=[(5,some (2,true)),(6,none)]}
def dL:C:= (.seq (.ite [g v9] [] 0 .skip (.exit 0)) (.seq (.blk 1 (q [u (.st v9 (.b false) 1 [])] [] (.reg [h 2 v4,g v8,u (.mf N.bj [.v 5,.v 8,.v 6,.v 9]),u (.ca N.dN 0 [1] [.l 2,.l 1,.l 0])] []))) (q [w 10 (.ld v9 1 false)] [] (.reg [w 9 (.al [z1] []),u (.st l0 v10 1 [])] []))))
def mX:C:= .loop false [0,1,2,3,7,10] K.dL
def cU:Fn:= { aP:=4,vars:=[0,1,2,3,4,6,7,8,9,10,18],body:=(q [w 4 (.bx v0 2),w 5 (.bx v2 1),w 6 (.bx v3 1),w 7 (.mv (.c (.nil)))] [] (q [m v1,u (.ca N.aU 1 [] [.l 0]),w 8 (.al [.nil] []),u (.st l0 l1 1 [])] [] (.seq (q [w 9 (.al [z1] []),u (.st l0 (.b true) 1 [])] [] (.blk 0 K.mX)) (q [g v8,x 7 l0] [] .ret)))),res:=[(7,none)]}
def fG:Fn:= { aP:=1,vars:=[2],body:=(q [x 0 (.b false)] [] (q [x 0 (.b true)] [] .ret)),res:=[(0,none)]}
def dB:Fn:= { aP:=2,vars:=[0,1,2,3,4],body:=(q [w 2 (.bx v0 2),w 3 (.bx v1 2),x 4 (.b false)] [] (q [f 1 v3,g l0,u (.ln l0),f 0 v2,g l0,u (.ln l0),u (.bin .eql l3 l0),m l0,y 0 true (.fa v3 0),i 1 true l0,y 2 true (.ca N.eI 0 [] [.l 0,.i 0,.i 2147483648]),u (.pk l3 l0 (.b false)),m l0,y 0 true (.fa v3 1),i 1 true l0,y 2 true (.ca N.aK 0 [] [.l 0,.c (.fn N.bZ [])]),y 3 true (.un .not l0),u (.pk l4 l0 (.b false)),x 4 l0] [] .ret)),res:=[(4,none)]}
def gw:C:= (.its [u (.bin .lss v5 v4)] [] 0 .skip (.exit 0) (.seq (.blk 1 (q [m v5,x 3 l0] [] (.ite [m v0,m v3,a 1 l1 l0,g l0,m v1,m v3,a 1 l1 l0,g l0,u (.bin .neq l4 l0)] [] 0 (q [x 2 (.b false)] [] .ret) .skip))) (.reg [u (.bin .add v5 (.i 1)),x 5 l0] [])))
def mu:C:= .loop true [2,3] K.gw
def bg:Fn:= { aP:=2,vars:=[0,1,4,5,12,13],body:=(q [x 2 (.b false)] [] (.seq (.ite [m v0,u (.ln l0),m v1,u (.ln l0),u (.bin .neq l2 l0)] [] 0 (q [x 2 (.b false)] [] .ret) .skip) (.seq (q [m v0,w 4 (.ln l0),x 5 (.i 0)] [] (.blk 0 K.mu)) (q [x 2 (.b true)] [] .ret)))),res:=[(2,none)]}
def aU:Fn:= { aP:=1,vars:=[0,2],body:=(q [w 1 (.mv (.c (.nil)))] [] (.itk [m v0,u (.eqk (.sl) false l0 (.c (.nil)))] [] 0 (q [w 1 (.nw 1)] [] .ret) .skip (q [u (.bsr [] 1),m v0,u (.app l1 l0 false 1),x 1 l0] [] .ret))),res:=[(1,none)]}
def cQ:Fn:= { aP:=2,vars:=[0,1,3],body:=(q [x 2 (.b false)] [] (q [g v1,m v0,u (.ca N.aO 0 [] [.l 1,.l 0]),x 2 l0] [] .ret)),res:=[(2,none)]}
def fH:Fn:= { aP:=3,vars:=[0,1,2,3,4,6,7],body:=(q [w 3 (.bx v0 2),w 4 (.bx v1 2),w 5 (.al [z0,.nil] []),x 6 (.i 0)] [] (.seq (.ite [h 2 v3,u (.ca N.di 0 [] [.l 0]),u (.bin .neq l0 (.i 0)),m l0,y 0 false (.ld v4 2 true),y 1 false (.fa v3 0),i 2 false l0,y 3 false (.ln l0),y 4 false (.ca N.dT 0 [] [.l 3,.l 0]),y 5 false (.un .not l0),u (.pk l6 (.b true) l0)] [] 0 (q [h 2 v4,u (.ca N.dh 0 [] [.l 0]),u (.st v5 l0 2 []),x 6 (.i 6)] [] .ret) .skip) (.seq (.ite [m v2,f 0 v4,g l0,u (.bin .lss l2 l0),m l0,e 0 false v2,y 1 false (.bin .gtr l0 (.i 2147483648)),u (.pk l2 (.b true) l0)] [] 0 (q [h 2 v4,u (.ca N.dh 0 [] [.l 0]),u (.st v5 l0 2 []),x 6 (.i 8)] [] .ret) .skip) (q [m v2,h 2 v3,f 1 v4,g l0,m v2,u (.ca N.eH 0 [] [.l 3,.l 1,.l 0]),u (.bd [z0,.nil] [(0,1,.l 5),(1,1,.l 0)]),u (.st v5 l0 2 []),x 6 (.i 0)] [] .ret)))),res:=[(5,some (2,true)),(6,none)]}
def fI:C:= (.its [u (.bin .lss v14 (.i 2))] [] 0 .skip (.exit 2) (.seq (.blk 3 (q [u (.ix v13 v14 2 1 false),x 6 l0] [] (q [f 0 v5,g l0,f 1 v5,g l0,x 7 l2,x 8 l1] [] (.seq (.ite [m v6] [] 0 (.reg [m v8,m v7,x 7 l1,x 8 l1] []) .skip) (q [h 2 v3,m v4,m v6,u (.ca N.kS 0 [] [.l 2,.l 1,.l 0]),x 9 l0] [] (.ite [m v9,u (.bin .geq l0 (.i 0)),m l0,e 0 true v1,e 1 true v7,y 2 true (.ia l1 l0 1),i 3 true l0,y 4 true (.bin .lss l0 (.i 1099511627776)),u (.pk l5 l0 (.b false))] [] 0 (.reg [m v2,m v7,m v8,m v1,m v7,a 1 l1 l0,g l0,m v9,u (.bin .add l1 l0),u (.cw l8 0 [] [.l 7,.l 6,.l 0])] []) .skip)))))) (.reg [u (.bin .add v14 (.i 1)),x 14 l0] [])))
def pR:C:= .loop true [0,6,7,8,9] K.fI
def jt:C:= (.its [u (.bin .lss v12 v11)] [] 0 .skip (.exit 0) (.seq (.blk 1 (q [m v12,a 10 v10 v12,h 10 l0,w 5 (.al [z0,z0,z0,z0,z1,z1,z0,z0,z0,z0] []),x 4 l3,u (.st l1 l2 10 [])] [] (q [w 13 (.bd [z1,z1] [(0,1,.b false),(1,1,.b true)]),x 14 (.i 0)] [] (.blk 2 K.pR)))) (.reg [u (.bin .add v12 (.i 1)),x 12 l0] [])))
def pS:C:= .loop true [0,4,5,6,7,8,9,13,14] K.jt
def dN:Fn:= { aP:=3,vars:=[0,1,2,3,6,7,9,10,11,12,14,15,16,21,22],body:=(q [w 3 (.bx v0 2)] [] (q [f 1 v3,w 10 (.ld l0 1 false),w 11 (.ln l0),x 12 (.i 0)] [] (.blk 0 K.pS))),res:=[]}
def bj:Fn:= { aP:=7,vars:=[1,2,3,4,5,6],body:=(q [m v1,g v2,u (.mx [.l 1,.l 0]),x 1 l0] [] (.ite [m v1,u (.bin .leq l0 (.i 2147483648)),m l0,e 0 true v1,i 1 true v3,e 2 true v0,y 3 true (.ia l1 l0 1),i 4 true l0,y 5 true (.bin .lss l4 l0),u (.pk l6 l0 (.b false)),m l0,i 0 true v4,e 1 true v0,y 2 true (.cw l1 0 [] [.l 0]),u (.pk l3 l0 (.b false))] [] 0 (.reg [g v3,m v0,m v1,a 1 l2 l1,u (.st l0 l1 1 []),u (.st v5 (.b true) 1 [])] []) .skip)),res:=[]}
def bZ:Fn:= { aP:=1,vars:=[0,2],body:=(q [x 1 (.b false)] [] (q [m v0,u (.bin .neq l0 (.i 1099511627776)),m l0,e 0 true v0,y 1 true (.ca N.eI 0 [] [.l 0,.i 0,.i 2147483648]),y 2 true (.un .not l0),u (.pk l3 l0 (.b false)),x 1 l0] [] .ret)),res:=[(1,none)]}
def kS:Fn:= { aP:=3,vars:=[0,1,2,3,6],body:=(q [w 3 (.bx v0 2),x 4 (.i 0)] [] (.seq (.ite [h 2 v3,u (.ca N.ec 0 [] [.l 0]),u (.un .not l0),m l0,e 0 false v1,y 1 false (.bin .lss l0 (.i 0)),u (.pk l2 (.b true) l0),m l0,e 0 false v1,y 1 false (.fa v3 1),i 2 false l0,y 3 false (.ln l0),y 4 false (.bin .geq l3 l0),u (.pk l5 (.b true) l0)] [] 0 (q [w 4 (.mv (.i (-1)))] [] .ret) .skip) (q [h 2 v3,m v1,m v2,u (.ca N.kT 0 [] [.l 2,.l 1,.l 0]),x 4 l0] [] .ret))),res:=[(4,none)]}
def kT:Fn:= { aP:=3,vars:=[0,1,2,3,6],body:=(q [w 3 (.bx v0 2),x 4 (.i 0)] [] (q [h 2 v3,m v1,m v2,u (.ca N.jM 0 [] []),u (.ca N.fA 0 [] [.l 3,.l 2,.l 1,.l 0]),x 4 l0] [(0,4)] .ret)),res:=[(4,none)]}
def fA:Fn:= { aP:=4,vars:=[0,1,2,3,4,7,8,9,10,11],body:=(q [w 4 (.bx v0 2),w 5 (.bx v3 3),x 6 (.i 0)] [] (q [f 1 v4,g l0,m v1,a 10 l1 l0,h 10 l0,w 7 (.al [z0,z0,z0,z0,z1,z1,z0,z0,z0,z0] []),u (.st l0 l1 10 [])] [] (.seq (.ite [f 5 v7,g l0,m l0,y 0 false (.fa v7 4),i 1 false l0,y 2 false (.un .not l0),u (.pk l3 (.b true) l0)] [] 0 (q [w 6 (.mv (.i (-1)))] [] .ret) .skip) (q [f 0 v4,g l0,f 1 v7,g l0,a 2 l2 l0,f 0 l0,g l0,f 0 v4,g l0,f 0 v7,g l0,a 2 l2 l0,f 0 l0,g l0,u (.bin .sub l7 l0),x 8 l0] [] (.seq (.ite [m v2] [] 0 (.reg [m v8,u (.un .neg l0),x 8 l0] []) .skip) (q [f 2 v5,g l0,x 9 l0] [] (.seq (.blk 0 (.ite [m v8,u (.bin .mul (.i 10) l0),f 2 v7,g l0,u (.bin .gtr l2 l0),m l0] [] 0 (.reg [f 0 v5,g l0,x 9 l0] []) (.ite [m v8,u (.bin .mul (.i (-10)) l0),f 2 v7,g l0,u (.bin .gtr l2 l0),m l0] [] 0 (.reg [f 1 v5,g l0,x 9 l0] []) .skip))) (q [f 2 v7,g l0,u (.bin .mul (.i 10) l0),m v9,u (.bin .add l1 l0),u (.bin .sub l0 (.i 1)),m v9,u (.bin .quo l1 l0),x 6 l0] [] .ret)))))))),res:=[(6,none)]}
def jM:Fn:= { aP:=0,vars:=[0],body:=(q [w 0 (.al [z0,z0,z0] [])] [] (q [u (.bd [z0,z0,z0] [(0,1,.i 6),(1,1,.i 9),(2,1,.i 12)]),u (.st v0 l0 3 [])] [] .ret)),res:=[(0,some (3,true))]}
end Go.Ev.K
namespace Go.Ev
class fM [Lib]:Prop where
 qk:Lib.fs N.ed=some K.ed
 lq:Lib.fs N.cU=some K.cU
 uj:Lib.fs N.fG=some K.fG
 oZ:Lib.fs N.dB=some K.dB
 jR:Lib.fs N.bg=some K.bg
 jS:Lib.fs N.aU=some K.aU
 mY:Lib.fs N.cQ=some K.cQ
 r6:Lib.fs N.fH=some K.fH
 mZ:Lib.fs N.dN=some K.dN
 mw:Lib.fs N.bj=some K.bj
 m0:Lib.fs N.bZ=some K.bZ
 xd:Lib.fs N.kS=some K.kS
 xe:Lib.fs N.kT=some K.kT
 xf:Lib.fs N.fA=some K.fA
 uk:Lib.fs N.jM=some K.jM
namespace K
variable [Lib] [fM]
theorem qk:Lib.fs N.ed=some K.ed:=fM.qk
theorem lq:Lib.fs N.cU=some K.cU:=fM.lq
theorem uj:Lib.fs N.fG=some K.fG:=fM.uj
theorem oZ:Lib.fs N.dB=some K.dB:=fM.oZ
theorem jR:Lib.fs N.bg=some K.bg:=fM.jR
theorem jS:Lib.fs N.aU=some K.aU:=fM.jS
theorem mY:Lib.fs N.cQ=some K.cQ:=fM.mY
theorem r6:Lib.fs N.fH=some K.fH:=fM.r6
theorem mZ:Lib.fs N.dN=some K.dN:=fM.mZ
theorem mw:Lib.fs N.bj=some K.bj:=fM.mw
theorem m0:Lib.fs N.bZ=some K.bZ:=fM.m0
theorem xd:Lib.fs N.kS=some K.kS:=fM.xd
theorem xe:Lib.fs N.kT=some K.kT:=fM.xe
theorem xf:Lib.fs N.fA=some K.fA:=fM.xf
theorem uk:Lib.fs N.jM=some K.jM:=fM.uk
end K
end Go.Ev
namespace Go.Ev
open Go
variable [Lib] [bX] [bJ] [fy] [fo] [gU] [fM]
abbrev pT(l:List Int):Obj:= .arr 1 false 0 ((l.map (T.int .i64)).map .t)
theorem yu(l:List Int)(hl:l.length≤1000000):aH 1 N.aU [.t (tL l)] []=some (.ref 0 0 l.length,[pT l]):=by
 refine av K.jS rfl ?_
 by_cases h0:l=[]
 · subst h0
   simp only[tL,List.map_nil]
   simp(disch:=omega)only[go_sem,K.aU,↓reduceIte,List.map_nil,List.length_nil,reduceAdd,reduceSub]
   rfl
 · have e:=fun H=>A7 H (l.map (T.int .i64)) (by simpa using h0)
   simp(disch:=omega)only[go_sem,K.aU,↓reduceIte,e,reduceAdd,reduceSub]
theorem KN(a b:List Int)(hl:a.length≤4294967296)(hl2:b.length≤4294967296):aH 0 N.bg [.t (tL a),.t (tL b)] []=some (B (decide (a=b)),[]):=by
 refine av K.jR rfl ?_
 by_cases hlen:a.length=b.length
 · have loop:∀z2 z3:D,exS aH K.mu ⟨[.t (tL a),.t (tL b),z2,z3,I a.length,I 0],[]⟩=
    some (match (List.range a.length).find? (fun j=>decide (nth a j≠nth b j))with
     | some j=>(.ret,⟨[.t (tL a),.t (tL b),B false,I j,I a.length,I j],[]⟩)
     | none=>(.exit 0,⟨[.t (tL a),.t (tL b),.und,.und,I a.length,I a.length],[]⟩)):=by
    intro z2 z3
    refine cq (fun j=>⟨[.t (tL a),.t (tL b),.und,.und,I a.length,I j],[]⟩) a.length (fun j=>decide (nth a j≠nth b j)) _ _ rfl ?_ ?_ ?_ (by simp)
    · intro j hj hp
      have hp:nth a j=nth b j:=by simpa using hp
      simp(disch:=omega)only[go_sem,K.gw,↓reduceIte,reduceAdd,reduceSub]
    · intro j hj hp
      have hp:nth a j≠nth b j:=by simpa using hp
      simp(disch:=omega)only[go_sem,K.gw,↓reduceIte,reduceAdd,reduceSub]
      simp
    · simp(disch:=omega)only[go_sem,K.gw,↓reduceIte,reduceAdd,reduceSub]
   have e:(a=b)↔(List.range a.length).find? (fun j=>decide (nth a j≠nth b j))=none:=by
    rw[List.find?_eq_none]
    constructor
    · intro h j _;simp[h]
    · intro h
      apply List.ext_getElem?
      intro j
      by_cases hj:j<a.length
      · rw[c7 hj,c7 (by omega)]
        have:=h j (aLu.2 hj)
        simpa using this
      · rw[aLm (by omega),aLm (by omega)]
   cases hf:(List.range a.length).find? (fun j=>decide (nth a j≠nth b j))with
   | some j=>
     rw[hf]at e loop
     have e:¬a=b:=fun h=>by have:=e.1 h;cases this
     simp(disch:=omega)only[go_sem,K.bg,↓reduceIte,loop,e,decide_false,reduceAdd,reduceSub]
   | none=>
     rw[hf]at e loop
     have e:a=b:=e.2 rfl
     simp(disch:=omega)only[go_sem,K.bg,↓reduceIte,loop,decide_eq_true e,reduceAdd,reduceSub]
 · have hne:a≠b:=fun h=>hlen (by rw[h])
   simp(disch:=omega)only[go_sem,K.bg,↓reduceIte,hne,decide_false,reduceAdd,reduceSub]
theorem S1:aH 0 N.jM [] []=some (.t (.agg [tI 6,tI 9,tI 12]),[]):=by
 refine av K.uk rfl ?_
 simp(disch:=omega)only[go_sem,K.jM,↓reduceIte,reduceAdd,reduceSub]
theorem Pr{m:aC}(h:m.ok)(k:Nat)(hk:k<m.roads.length)(back:Bool)(up down level:Int)(hu:1≤up)(hu2:up≤100)(hd:1≤down)(hd2:down≤100)(hl:1≤level)(hl2:level≤100):
 aH 0 N.fA [.t m.e,I k,B back,.t (.agg [tI up,tI down,tI level])] []=some (I (iC m k back up down level),[]):=by
 refine av K.xf rfl ?_
 have nr:=h.nr
 have np:=h.np
 obtain⟨f0,f1,t0,t1, -,l0,l1, -, -, -, -, -, -, -, -⟩:=h.rs _ (ai hk)
 have b1:=h.hs _ (ai (l:=m.aa) (j:=(nth m.roads k).frm.toNat) (by omega))
 have b2:=h.hs _ (ai (l:=m.aa) (j:=(nth m.roads k).to.toNat) (by omega))
 have g:(m.roads.map Road.e)[k]?=some (nth m.roads k).e:=bR _ hk
 have p1:(m.aa.map Place.e)[(nth m.roads k).frm.toNat]?=some (nth m.aa (nth m.roads k).frm.toNat).e:=bR _ (by omega)
 have p2:(m.aa.map Place.e)[(nth m.roads k).to.toNat]?=some (nth m.aa (nth m.roads k).to.toNat).e:=bR _ (by omega)
 have key:∀h1 h2:Int, -10000≤h1→h1≤10000→ -10000≤h2→h2≤10000→IntKind.i64.wrap (h1-h2)=h1-h2∧IntKind.i64.wrap (-(h1-h2))=h2-h1:=fun h1 h2 _ _ _ _=>⟨wS (by omega) (by omega),by rw[wS (by omega) (by omega)];omega⟩
 unfold iC
 generalize nth m.roads k=x at*
 obtain⟨frm,to,len,area,walk,closed,rl,rh,ll,lh⟩:=x
 simp only at f0 f1 t0 t1 l0 l1 b1 b2 p1 p2 ⊢
 cases closed with
 | true=>
   obtain⟨aa,roads⟩:=m
   simp(disch:=omega)only[go_sem,K.fA,↓reduceIte,g,reduceAdd,reduceSub]
 | false=>
   cases walk with
   | false=>
     obtain⟨aa,roads⟩:=m
     simp(disch:=omega)only[go_sem,K.fA,↓reduceIte,g,reduceAdd,reduceSub]
   | true=>
     have g1:=w8 (a:=10*len+up-1) (b:=up) (by omega) hu
     have g2:=w8 (a:=10*len+down-1) (b:=down) (by omega) hd
     have g3:=w8 (a:=10*len+level-1) (b:=level) (by omega) hl
     cases back with
     | true=>
       simp only[↓reduceIte]
       generalize nth m.aa frm.toNat=q1 at*
       generalize nth m.aa to.toNat=q2 at*
       obtain⟨h1,s1⟩:=q1
       obtain⟨h2,s2⟩:=q2
       obtain⟨aa,roads⟩:=m
       simp only at*
       obtain⟨w2,w3⟩:=key h2 h1 (by omega) (by omega) (by omega) (by omega)
       by_cases c2:len< -10*(h1-h2)
       · simp(disch:=omega)only[go_sem,K.fA,↓reduceIte,g,p1,p2,w2,w3,gt_iff_lt,Int.zero_sub,reduceAdd,reduceSub]
       · by_cases c1:len<10*(h1-h2)
         · simp(disch:=omega)only[go_sem,K.fA,↓reduceIte,g,p1,p2,w2,w3,gt_iff_lt,Int.zero_sub,reduceAdd,reduceSub]
         · simp(disch:=omega)only[go_sem,K.fA,↓reduceIte,g,p1,p2,w2,w3,gt_iff_lt,Int.zero_sub,reduceAdd,reduceSub]
     | false=>
       simp only[aLt,↓reduceIte]
       generalize nth m.aa frm.toNat=q1 at*
       generalize nth m.aa to.toNat=q2 at*
       obtain⟨h1,s1⟩:=q1
       obtain⟨h2,s2⟩:=q2
       obtain⟨aa,roads⟩:=m
       simp only at*
       obtain⟨w2,w3⟩:=key h2 h1 (by omega) (by omega) (by omega) (by omega)
       by_cases c2:len< -10*(h2-h1)
       · simp(disch:=omega)only[go_sem,K.fA,↓reduceIte,g,p1,p2,w2,gt_iff_lt,reduceAdd,reduceSub]
       · by_cases c1:len<10*(h2-h1)
         · simp(disch:=omega)only[go_sem,K.fA,↓reduceIte,g,p1,p2,w2,gt_iff_lt,reduceAdd,reduceSub]
         · simp(disch:=omega)only[go_sem,K.fA,↓reduceIte,g,p1,p2,w2,gt_iff_lt,reduceAdd,reduceSub]
theorem S2{m:aC}(h:m.ok)(k:Nat)(hk:k<m.roads.length)(back:Bool):aH 0 N.kS [.t m.e,I k,B back] []=some (I (iC m k back 6 9 12),[]):=by
 have q:=S1
 have w:=Pr h k hk back 6 9 12 (by omega) (by omega) (by omega) (by omega) (by omega) (by omega)
 have v:=jk h
 have nr:=h.nr
 have s:aH 0 N.kT [.t m.e,I k,B back] []=some (I (iC m k back 6 9 12),[]):=by
  refine av K.xe rfl ?_
  generalize iC m k back 6 9 12=r at*
  obtain⟨aa,roads⟩:=m
  simp(disch:=omega)only[go_sem,K.kT,↓reduceIte,q,w,reduceAdd,reduceSub]
 refine av K.xd rfl ?_
 generalize iC m k back 6 9 12=r at*
 obtain⟨aa,roads⟩:=m
 simp only at*
 simp(disch:=omega)only[go_sem,K.kS,↓reduceIte,v,s,reduceAdd,reduceSub]
theorem Yq(q:Int):aH 0 N.fG [I q] []=some (B true,[]):=by
 refine av K.uj rfl ?_
 simp(disch:=omega)only[go_sem,K.fG,↓reduceIte,reduceAdd,reduceSub]
theorem S3(q:Int)(l:List Int)(hl:l.length≤4294967296):aH 0 N.cQ [I q,.bp 0 0] [.box [.t (tL l)]]=some (B (decide (q∈l)),[.box [.t (tL l)]]):=by
 refine av K.mY rfl ?_
 have c:=oX l q hl
 simp(disch:=omega)only[go_sem,K.cQ,↓reduceIte,c,reduceAdd,reduceSub]
def smE(into:Option (List Int)):aq:=match into with
 | none=>[]
 | some s=>[.box [.t (tL s)]]
def smD(into:Option (List Int)):D:=match into with
 | none=> .fn N.fG []
 | some _=> .fn N.cQ [.bp 5 0]
def smK(into:Option (List Int)):Nat:=match into with
 | none=>5
 | some _=>6
@[go_sem] theorem aj8 (H : aq) (len j : Nat) (ts : List T) (h : j < len) : ahx H len 1 false (.t (.agg ts)) j = (ts[j]?).map fun t => (.t t, H) := by
 have h0:len≠0:=by omega
 unfold ahx FR
 rw[if_neg h0,if_pos h]
 unfold Bp cut
 simp only[D.isAgg,D.cells,T.cells,if_true,Nat.mul_one,List.length_map]
 by_cases hj:j<ts.length
 · rw[if_pos (by omega),aLc hj]
   have e:((ts.map D.t).drop j).take 1=[D.t ts[j]]:=by
    rw[List.drop_eq_getElem_cons (by simpa using hj)];simp
   rw[e];rfl
 · rw[if_neg (by omega),aLm (by omega)];rfl
def Ps(into:Option (List Int))(l:List Int)(q:Nat)(x:Int):Bool:=decide (x≤2147483648∧x<nth l q)&&O1 into q
theorem Yr(into:Option (List Int))(hi:∀s,into=some s→s.length≤64)(l:List Int)(hl:l.length≤64)(hb:bnd l)(p:Int)(q:Nat)(hq:q<l.length)(n t:Int)(ch:Bool):
 aH 0 N.bj [I p,I q,I n,.bp 0 0,.bp 1 0,.bp 2 0,.bp 3 0] (.box [I t]:: .box [.ref 4 0 l.length]:: .box [smD into]:: .box [B ch]::pT l::smE into)=
  some (.tup [],if Ps into l q (max n t)=true then .box [I t]:: .box [.ref 4 0 l.length]:: .box [smD into]:: .box [B true]::pT (l.set q (max n t))::smE into
   else .box [I t]:: .box [.ref 4 0 l.length]:: .box [smD into]:: .box [B ch]::pT l::smE into):=by
 refine av K.mw rfl ?_
 have ln:(l.set q (max n t)).length=l.length:=List.length_set ..
 have a:=Yq q
 have b:=hb _ (ai hq)
 unfold Ps
 cases into with
 | none=>
   simp only[smE,smD,O1,Bool.and_true,decide_eq_true_eq]
   by_cases c1:max n t≤2147483648
   · by_cases c2:max n t<nth l q
     · simp(disch:=omega)only[go_sem,K.bj,↓reduceIte,a,c1,c2,and_self,reduceAdd,reduceSub]
     · simp(disch:=omega)only[go_sem,K.bj,↓reduceIte,c1,c2,and_false,reduceAdd,reduceSub]
   · simp(disch:=omega)only[go_sem,K.bj,↓reduceIte,c1,false_and,reduceAdd,reduceSub]
 | some s=>
   have a2:=S3 q s (by have:=hi s rfl;omega)
   simp only[smE,smD,O1]
   by_cases c1:max n t≤2147483648
   · by_cases c2:max n t<nth l q
     · by_cases c3:(q:Int)∈s
       · simp only[c3,decide_true]at a2
         simp(disch:=omega)only[go_sem,K.bj,↓reduceIte,a2,c1,c2,c3,and_self,decide_true,Bool.and_true,reduceAdd,reduceSub]
       · simp only[c3,decide_false]at a2
         simp(disch:=omega)only[go_sem,K.bj,↓reduceIte,a2,c1,c2,c3,and_self,decide_false,Bool.and_false,reduceAdd,reduceSub]
     · simp(disch:=omega)only[go_sem,K.bj,↓reduceIte,c1,c2,and_false,decide_false,Bool.false_and,reduceAdd,reduceSub]
   · simp(disch:=omega)only[go_sem,K.bj,↓reduceIte,c1,false_and,decide_false,Bool.false_and,reduceAdd,reduceSub]
theorem S4{m:aC}(h:m.ok)(t:Int)(into:Option (List Int)){k:Nat}(hk:k<m.roads.length)(back:Bool)(l:List Int):
 gG m t into k back l=if 0≤iC m k back 6 9 12∧nth l ((nth m.roads k).src back).toNat<1099511627776∧Ps into l ((nth m.roads k).dst back).toNat (max (nth l ((nth m.roads k).src back).toNat+iC m k back 6 9 12) t)=true
  then(l.set ((nth m.roads k).dst back).toNat (max (nth l ((nth m.roads k).src back).toNat+iC m k back 6 9 12) t),true)else(l,false):=by
 have r2:=Road.DL (h.rs _ (ai hk)) back
 unfold gG Ps oY n5
 have e:(((nth m.roads k).dst back).toNat:Int)=(nth m.roads k).dst back:=by omega
 rw[e]
 generalize (nth m.roads k).dst back=d at*
 generalize ((nth m.roads k).src back).toNat=s at*
 generalize iC m k back 6 9 12=v at*
 rw[Int.max_comm t]
 generalize max (nth l s+v) t=x at*
 cases O1 into d with
 | false=>simp
 | true=>
   simp only[↓reduceIte,Bool.and_true,aLr,decide_eq_true_eq]
   by_cases c:((0≤v∧nth l s<1099511627776)∧x≤2147483648)∧x<nth l d.toNat
   · obtain⟨⟨⟨c1,c2⟩,c3⟩,c4⟩:=c
     simp[c1,c2,c3,c4]
   · have c':¬(0≤v∧nth l s<1099511627776∧x≤2147483648∧x<nth l d.toNat):=fun h=>c ⟨⟨⟨h.1,h.2.1⟩,h.2.2.1⟩,h.2.2.2⟩
     rw[if_neg c,if_neg c']
     simp only[Prod.mk.injEq,true_and]
     have:(decide (0≤v)&&decide (nth l s<1099511627776)&&decide (x≤2147483648)&&decide (x<nth l d.toNat))=false:=by
      rw[Bool.eq_false_iff];intro h;simp only[aLr,decide_eq_true_eq]at h;exact c h
     exact this
abbrev Pt:D:= .fn N.bj [.bp 1 0,.bp 2 0,.bp 3 0,.bp 4 0]
abbrev Ch(into:Option (List Int))(t:Int)(s:List Int×Bool):aq:=pT s.1:: .box [I t]:: .box [.ref 0 0 s.1.length]:: .box [smD into]:: .box [B s.2]::smE into
abbrev zy(x:Road):List D:=[I x.frm,I x.to,I x.len,I x.area,B x.walk,B x.closed,I x.te,I x.restH,I x.liftL,I x.liftH]
theorem DR{m:aC}(h:m.ok)(t:Int)(ht:0≤t)(ht2:t≤1000000000000)(into:Option (List Int))(hi:∀s,into=some s→s.length≤64)(l:List Int)(hl:l.length=m.aa.length)(hb:bnd l)(ch:Bool){k:Nat}(hk:k<m.roads.length)(back:Bool):
 gp true [0,6,7,8,9] (Ch into t (l,ch)++[Obj.box (ae m),Obj.box (zy (nth m.roads k))]).length (exS aH K.fI ⟨[.und,.ref 0 0 l.length,Pt,.bp (smK into) 0,I k,.bp (smK into+1) 0,.und,.und,.und,.und,.t (.sl (m.roads.map Road.e)),I m.roads.length,I k,.t (.agg [.bool false,.bool true]),I (if back then 1 else 0:Nat)],Ch into t (l,ch)++[.box (ae m),.box (zy (nth m.roads k))]⟩)=
  some ⟨[.und,.ref 0 0 l.length,Pt,.bp (smK into) 0,I k,.bp (smK into+1) 0,.und,.und,.und,.und,.t (.sl (m.roads.map Road.e)),I m.roads.length,I k,.t (.agg [.bool false,.bool true]),I ((if back then 1 else 0:Nat)+1)],Ch into t ((gG m t into k back l).1,ch||(gG m t into k back l).2)++[.box (ae m),.box (zy (nth m.roads k))]⟩:=by
 have np:=h.np
 have nr:=h.nr
 have ok:=h.rs _ (ai hk)
 have r1:=Road.zV ok back
 have r2:=Road.DL ok back
 have wt:=S2 h k hk back
 have wl:=ED h k hk back
 have b1:=hb _ (ai (l:=l) (j:=((nth m.roads k).src back).toNat) (by omega))
 have lo:=Yr into hi l (by omega) hb ((nth m.roads k).src back) ((nth m.roads k).dst back).toNat (by omega) (nth l ((nth m.roads k).src back).toNat+iC m k back 6 9 12) t ch
 have e:(((nth m.roads k).dst back).toNat:Int)=(nth m.roads k).dst back:=by omega
 rw[e]at lo
 rw[S4 h t into hk back l]
 have ls:∀x,(l.set ((nth m.roads k).dst back).toNat x).length=l.length:=fun x=>List.length_set ..
 generalize iC m k back 6 9 12=v at*
 generalize hx:nth m.roads k=x at*
 clear hx ok
 obtain⟨frm,to,len,area,walk,closed,rl,rh,ll,lh⟩:=x
 obtain⟨aa,roads⟩:=m
 simp only at hl np nr hk
 have h01:(1:Int)=0+1:=rfl
 by_cases c1:0≤v
 · by_cases c2:nth l ((Road.mk frm to len area walk closed rl rh ll lh).src back).toNat<1099511627776
   · cases c3:Ps into l ((Road.mk frm to len area walk closed rl rh ll lh).dst back).toNat (max (nth l ((Road.mk frm to len area walk closed rl rh ll lh).src back).toNat+v) t)<;>
     cases back<;>simp only[Road.src,Road.dst,aLt,↓reduceIte]at* <;>simp only[c1,c2,c3,and_true,true_and,and_self,and_false,aLt,↓reduceIte]at lo ⊢ <;>
     cases into<;>simp only[smE,smD,smK,ae,zy,Ch,List.cons_append,List.nil_append]at* <;>
     simp(disch:=omega)only[go_sem,K.fI,↓reduceIte,wt,lo,c1,c2,ls,Bool.or_true,Bool.or_false,reduceAdd,reduceSub]
   · cases back<;>simp only[Road.src,Road.dst,aLt,↓reduceIte]at* <;>simp only[c1,c2,false_and,and_false,↓reduceIte]<;>
     cases into<;>simp only[smE,smD,smK,ae,zy,Ch,List.cons_append,List.nil_append]at* <;>
     simp(disch:=omega)only[go_sem,K.fI,↓reduceIte,wt,c1,c2,Bool.or_false,reduceAdd,reduceSub]
 · cases back<;>simp only[Road.src,Road.dst,aLt,↓reduceIte]at* <;>simp only[c1,false_and,↓reduceIte]<;>
   cases into<;>simp only[smE,smD,smK,ae,zy,Ch,List.cons_append,List.nil_append]at* <;>
   simp(disch:=omega)only[go_sem,K.fI,↓reduceIte,wt,c1,Bool.or_false,reduceAdd,reduceSub]
theorem S5{m:aC}(h:m.ok)(t:Int)(ht:0≤t)(ht2:t≤1000000000000)(into:Option (List Int))(hi:∀s,into=some s→s.length≤64)(l:List Int)(hl:l.length=m.aa.length)(hb:bnd l)(ch:Bool){k:Nat}(hk:k<m.roads.length):
 gp true [0,4,5,6,7,8,9,13,14] (Ch into t (l,ch)++[Obj.box (ae m)]).length (exS aH K.jt ⟨[.und,.ref 0 0 l.length,Pt,.bp (smK into) 0,.und,.und,.und,.und,.und,.und,.t (.sl (m.roads.map Road.e)),I m.roads.length,I k,.und,.und],Ch into t (l,ch)++[.box (ae m)]⟩)=
  some ⟨[.und,.ref 0 0 (w9 m t into k (l,ch)).1.length,Pt,.bp (smK into) 0,.und,.und,.und,.und,.und,.und,.t (.sl (m.roads.map Road.e)),I m.roads.length,I (k+1),.und,.und],Ch into t (w9 m t into k (l,ch))++[.box (ae m)]⟩:=by
 have nr:=h.nr
 have g:(m.roads.map Road.e)[k]?=some (nth m.roads k).e:=bR _ hk
 have h1:=DR h t ht ht2 into hi l hl hb ch hk false
 have l1:(gG m t into k false l).1.length=l.length:=qS ..
 have l2:(gG m t into k true (gG m t into k false l).1).1.length=l.length:=by rw[qS,l1]
 have h2:=DR h t ht ht2 into hi (gG m t into k false l).1 (by omega) (ug h hl hb hk false) (ch||(gG m t into k false l).2) hk true
 have st:w9 m t into k (l,ch)=((gG m t into k true (gG m t into k false l).1).1,ch||(gG m t into k false l).2||(gG m t into k true (gG m t into k false l).1).2):=rfl
 rw[st]
 simp only[l1,l2,aLt,↓reduceIte]at h1 h2 ⊢
 have inner:∀z0 z6 z7 z8 z9:D,exS aH K.pR ⟨[z0,.ref 0 0 l.length,Pt,.bp (smK into) 0,I k,.bp (smK into+1) 0,z6,z7,z8,z9,.t (.sl (m.roads.map Road.e)),I m.roads.length,I k,.t (.agg [.bool false,.bool true]),I 0],Ch into t (l,ch)++[.box (ae m),.box (zy (nth m.roads k))]⟩=
  some (.exit 2,⟨[.und,.ref 0 0 l.length,Pt,.bp (smK into) 0,I k,.bp (smK into+1) 0,.und,.und,.und,.und,.t (.sl (m.roads.map Road.e)),I m.roads.length,I k,.t (.agg [.bool false,.bool true]),I 2],
   Ch into t ((gG m t into k true (gG m t into k false l).1).1,ch||(gG m t into k false l).2||(gG m t into k true (gG m t into k false l).1).2)++[.box (ae m),.box (zy (nth m.roads k))]⟩):=by
  intro z0 z6 z7 z8 z9
  refine bz (fun j=>⟨[.und,.ref 0 0 l.length,Pt,.bp (smK into) 0,I k,.bp (smK into+1) 0,.und,.und,.und,.und,.t (.sl (m.roads.map Road.e)),I m.roads.length,I k,.t (.agg [.bool false,.bool true]),I j],
   Ch into t (match j with | 0=>(l,ch) | 1=>((gG m t into k false l).1,ch||(gG m t into k false l).2) | _=>((gG m t into k true (gG m t into k false l).1).1,ch||(gG m t into k false l).2||(gG m t into k true (gG m t into k false l).1).2))++[.box (ae m),.box (zy (nth m.roads k))]⟩) 2 rfl ?_ ?_ (by simp)
  · intro j hj
    have hj2:j=0∨j=1:=by omega
    rcases hj2 with rfl | rfl
    · exact h1
    · exact h2
  · clear h1 h2
    cases into<;>simp only[smE,smD,smK,ae,zy,Ch,List.cons_append,List.nil_append]<;>
    simp(disch:=omega)only[go_sem,K.fI,↓reduceIte,reduceAdd,reduceSub]
 clear h1 h2 st
 generalize gG m t into k true (gG m t into k false l).1=b2 at*
 generalize gG m t into k false l=b1 at*
 generalize hx:nth m.roads k=x at*
 clear hx
 obtain⟨frm,to,len,area,walk,closed,rl,rh,ll,lh⟩:=x
 obtain⟨aa,roads⟩:=m
 simp only at nr hk
 cases into<;>simp only[smE,smD,smK,ae,zy,Ch,List.cons_append,List.nil_append]at* <;>
 simp(disch:=omega)only[go_sem,K.jt,↓reduceIte,g,inner,l2,reduceAdd,reduceSub]
theorem I6{m:aC}(h:m.ok)(t:Int)(ht:0≤t)(ht2:t≤1000000000000)(into:Option (List Int))(hi:∀s,into=some s→s.length≤64)(l:List Int)(hl:l.length=m.aa.length)(hb:bnd l)(ch:Bool):
 aH 0 N.dN [.t m.e,.ref 0 0 l.length,Pt] (Ch into t (l,ch))=some (.tup [],Ch into t ((dQ m t into l).1,ch||(dQ m t into l).2)):=by
 refine av K.mZ rfl ?_
 have nr:=h.nr
 have ls:=fun k=>dZ m t into l k
 have loop:∀z0 z4 z5 z6 z7 z8 z9 z13 z14:D,exS aH K.pS ⟨[z0,.ref 0 0 l.length,Pt,.bp (smK into) 0,z4,z5,z6,z7,z8,z9,.t (.sl (m.roads.map Road.e)),I m.roads.length,I 0,z13,z14],Ch into t (l,ch)++[.box (ae m)]⟩=
  some (.exit 0,⟨[.und,.ref 0 0 l.length,Pt,.bp (smK into) 0,.und,.und,.und,.und,.und,.und,.t (.sl (m.roads.map Road.e)),I m.roads.length,I m.roads.length,.und,.und],Ch into t ((dQ m t into l).1,ch||(dQ m t into l).2)++[.box (ae m)]⟩):=by
  intro z0 z4 z5 z6 z7 z8 z9 z13 z14
  refine bz (fun j=>⟨[.und,.ref 0 0 l.length,Pt,.bp (smK into) 0,.und,.und,.und,.und,.und,.und,.t (.sl (m.roads.map Road.e)),I m.roads.length,I j,.und,.und],Ch into t ((gv m t into l j).1,ch||(gv m t into l j).2)++[.box (ae m)]⟩) m.roads.length ?_ ?_ ?_ (by simp)
  · simp only[gv,Bool.or_false];rfl
  · intro j hj
    have r:=S5 h t ht ht2 into hi (gv m t into l j).1 (by rw[ls,hl]) (jJ h hl hb j (by omega)) (ch||(gv m t into l j).2) hj
    have e:w9 m t into j ((gv m t into l j).1,ch||(gv m t into l j).2)=((gv m t into l (j+1)).1,ch||(gv m t into l (j+1)).2):=by
     simp only[gv,w9,Bool.or_assoc]
    rw[e]at r
    simp only[ls]at r
    exact r
  · clear ls
    cases into<;>simp only[smE,smD,smK,ae,zy,Ch,List.cons_append,List.nil_append]<;>
    simp(disch:=omega)only[go_sem,K.jt,↓reduceIte,dQ,reduceAdd,reduceSub]
 have l2:(dQ m t into l).1.length=l.length:=by unfold dQ;rw[ls]
 clear ls
 generalize dQ m t into l=r at*
 obtain⟨r1,r2⟩:=r
 obtain⟨aa,roads⟩:=m
 simp only at nr hl l2
 cases into<;>simp only[smE,smD,smK,ae,zy,Ch,List.cons_append,List.nil_append]at* <;>
 simp(disch:=omega)only[go_sem,K.dN,↓reduceIte,loop,l2,reduceAdd,reduceSub]
section
variable (a0 a1 a2 a3 a4 a5 x y : Obj) (ds : aq)
theorem Vp:(a0::a1::a2::a3::a4::(ds++[x]))[ds.length+5]?=some x:=by simp
theorem aef:(a0::a1::a2::a3::a4::(ds++[x])).set (ds.length+5) y=a0::a1::a2::a3::a4::(ds++[y]):=by simp
theorem Vq:(a0::a1::a2::a3::a4::a5::(ds++[x]))[ds.length+6]?=some x:=by simp
theorem aeg:(a0::a1::a2::a3::a4::a5::(ds++[x])).set (ds.length+6) y=a0::a1::a2::a3::a4::a5::(ds++[y]):=by simp
theorem Vr(u:Obj):(ds++[u]++[x])[ds.length+1]?=some x:=by simp
theorem Ys(u:Obj):(a0::a1::a2::a3::a4::(ds++[u]++[x])).set (ds.length+1+1+1+1+1+1) y=a0::a1::a2::a3::a4::(ds++[u]++[y]):=by simp
theorem Yt(u:Obj):(a0::a1::a2::a3::a4::a5::(ds++[u]++[x])).set (ds.length+1+1+1+1+1+1+1) y=a0::a1::a2::a3::a4::a5::(ds++[u]++[y]):=by simp
theorem aeh:(ds++[x]).length=ds.length+1:=by simp
end
@[go_sem] theorem agL (n : Nat) : eqB n n = true := by
 induction n with
 | zero=>rfl
 | succ n ih=>exact ih
abbrev Vs(m:aC)(into:Option (List Int))(t:Int)(l:List Int)(ds:aq)(c:Bool):aq:=match into with
 | none=> .box (ae m):: .box [I t]:: .box [.fn N.fG []]::pT l:: .box [.ref 3 0 l.length]::(ds++[.box [B c]])
 | some s=> .box [.t (tL s)]:: .box (ae m):: .box [I t]:: .box [.fn N.cQ [.bp 0 0]]::pT l:: .box [.ref 4 0 l.length]::(ds++[.box [B c]])
abbrev I7(m:aC)(into:Option (List Int))(t:Int)(l:List Int)(ds:aq)(c:Bool):St:=match into with
 | none=>⟨[.und,.und,.und,.und,.bp 0 0,.bp 1 0,.bp 2 0,.und,.bp 4 0,.bp (ds.length+5) 0,.und],Vs m none t l ds c⟩
 | some s=>⟨[.und,.und,.und,.und,.bp 1 0,.bp 2 0,.bp 3 0,.und,.bp 5 0,.bp (ds.length+6) 0,.und],Vs m (some s) t l ds c⟩
theorem Pu{m:aC}(h:m.ok)(t:Int)(ht:0≤t)(ht2:t≤1000000000000)(into:Option (List Int))(hi:∀s,into=some s→s.length≤64)(l:List Int)(hl:l.length=m.aa.length)(hb:bnd l)(ds:aq)(k:Nat):
 gp false [0,1,2,3,7,10] k (exS aH K.dL (I7 m into t l ds true))=some (I7 m into t (dQ m t into l).1 (ds++[.box [B (dQ m t into l).2]]) (dQ m t into l).2):=by
 have nr:=h.nr
 have ar:=I6 h t ht ht2 into hi l hl hb false
 have l2:(dQ m t into l).1.length=l.length:=by unfold dQ;rw[dZ]
 cases into with
 | none=>
   generalize dQ m t none l=r at*
   obtain⟨r1,r2⟩:=r
   obtain⟨aa,roads⟩:=m
   simp only[Vs,I7,Ch,smE,smD,ae,Bool.false_or]at*
   simp(disch:=omega)only[go_sem,K.dL,↓reduceIte,ar,Vp,aef,aeh,l2,Vr,Ys,reduceAdd,reduceSub]
 | some s=>
   generalize dQ m t (some s) l=r at*
   obtain⟨r1,r2⟩:=r
   obtain⟨aa,roads⟩:=m
   simp only[Vs,I7,Ch,smE,smD,ae,Bool.false_or]at*
   simp(disch:=omega)only[go_sem,K.dL,↓reduceIte,ar,Vq,aeg,aeh,l2,Vr,Yt,reduceAdd,reduceSub]
theorem S6(m:aC)(into:Option (List Int))(t:Int)(l:List Int)(ds:aq):exS aH K.dL (I7 m into t l ds false)=some (.exit 0,I7 m into t l ds false):=by
 obtain⟨aa,roads⟩:=m
 cases into with
 | none=>
   simp only[Vs,I7,ae]
   simp(disch:=omega)only[go_sem,K.dL,↓reduceIte,Vp,reduceAdd,reduceSub]
 | some s=>
   simp only[Vs,I7,ae]
   simp(disch:=omega)only[go_sem,K.dL,↓reduceIte,Vq,reduceAdd,reduceSub]
theorem EJ{m:aC}(h:m.ok)(t:Int)(ht:0≤t)(ht2:t≤1000000000000)(into:Option (List Int))(hi:∀s,into=some s→s.length≤64):∀(n:Nat) (l:List Int) (ds:aq),Ba l<n→l.length=m.aa.length→bnd l→
 ∃ds',nj false [0,1,2,3,7,10] (exS aH K.dL) (I7 m into t l ds true)=some (.exit 0,I7 m into t (ja (dQ m t into) n l) ds' false)
 | 0,l,ds,hn,_,_=>absurd hn (by omega)
 | n+1,l,ds,hn,hl,hb=>by
   have r:=Pu h t ht ht2 into hi l hl hb ds (I7 m into t l ds true).H.length
   have s:=(qT h (t:=t) (into:=into) hl hb m.roads.length (aLs _)).1
   change (dQ m t into l).2=true→Ba (dQ m t into l).1<Ba l at s
   unfold ja
   cases hc:(dQ m t into l).2 with
   | true=>
     rw[hc]at r
     obtain⟨ds',h2⟩:=EJ h t ht ht2 into hi n (dQ m t into l).1 _ (by have:=s hc;omega) (by unfold dQ;rw[dZ,hl]) (jJ h hl hb _ (aLs _))
     exact⟨ds',fC r h2⟩
   | false=>
     rw[hc]at r
     exact⟨_,fC r (dW (S6 m into t _ _) (by simp))⟩
theorem DT{m:aC}(h:m.ok)(t:Int)(ht:0≤t)(ht2:t≤1000000000000)(l:List Int)(hl:l.length=m.aa.length)(hb:bnd l):
 aH 0 N.cU [.t m.e,.t (tL l),I t,.fn N.fG []] []=some (.t (tL (dE m t none l)),[])∧
 ∀s:List Int,s.length≤64→aH 1 N.cU [.t m.e,.t (tL l),I t,.fn N.cQ [.bp 0 0]] [.box [.t (tL s)]]=some (.ref 1 0 l.length,[.box [.t (tL s)],pT (dE m t (some s) l)]):=by
 have np:=h.np
 have c1:=yu l (by omega)
 have ln:∀into,(dE m t into l).length=l.length:=by
  intro into
  have key:∀n l,(ja (dQ m t into) n l).length=l.length:=by
   intro n
   induction n with
   | zero=>intro l;rfl
   | succ n ih=>
     intro l
     unfold ja
     split
     · rw[ih];unfold dQ;rw[dZ]
     · unfold dQ;rw[dZ]
  exact key _ _
 refine⟨av K.lq rfl ?_,fun s hs=>av K.lq rfl ?_⟩
 · obtain⟨ds,lp⟩:=EJ h t ht ht2 none (by simp) (Ba l+1) l [] (Nat.lt_succ_self _) hl hb
   have ln:=ln none
   have lp:∀z0 z1 z2 z3 z7 z10:D,exS aH K.mX ⟨[z0,z1,z2,z3,.bp 0 0,.bp 1 0,.bp 2 0,z7,.bp 4 0,.bp 5 0,z10],[.box (ae m),.box [I t],.box [.fn N.fG []],pT l,.box [.ref 3 0 l.length],.box [B true]]⟩=some (.exit 0,I7 m none t (dE m t none l) ds false):=fun z0 z1 z2 z3 z7 z10=>lp
   generalize dE m t none l=r at*
   obtain⟨aa,roads⟩:=m
   simp only[Vs,I7,ae]at*
   simp(disch:=omega)only[go_sem,K.cU,↓reduceIte,c1,lp,ln,reduceAdd,reduceSub]
 · obtain⟨ds,lp⟩:=EJ h t ht ht2 (some s) (by intro s' h;cases h;exact hs) (Ba l+1) l [] (Nat.lt_succ_self _) hl hb
   have l2:=ln (some s)
   clear ln
   have lp:∀z0 z1 z2 z3 z7 z10:D,exS aH K.mX ⟨[z0,z1,z2,z3,.bp 1 0,.bp 2 0,.bp 3 0,z7,.bp 5 0,.bp 6 0,z10],[.box [.t (tL s)],.box (ae m),.box [I t],.box [.fn N.cQ [.bp 0 0]],pT l,.box [.ref 4 0 l.length],.box [B true]]⟩=some (.exit 0,I7 m (some s) t (dE m t (some s) l) ds false):=fun z0 z1 z2 z3 z7 z10=>lp
   generalize dE m t (some s) l=r at*
   obtain⟨aa,roads⟩:=m
   simp only[Vs,I7,ae]at*
   simp(disch:=omega)only[go_sem,K.cU,↓reduceIte,c1,lp,l2,reduceAdd,reduceSub]
end Go.Ev
namespace Go.Ev
open Go
variable [Lib] [bX] [bJ]
theorem ny{gc:Bool}{dead:List Nat}{c:C}{vs:List D}{H:aq}(s:Nat→St)(n:Nat)(p:Nat→Bool)(P:Nat→Ex×St→Prop)(eN:Ex×St)
 (h0:(⟨lV dead vs,H⟩:St)=s 0) (hs:∀j,j<n→p j=false→gp gc dead (s j).H.length (exS aH c (s j))=some (s (j+1)))
 (he:∀j,j<n→p j=true→∃q,exS aH c (s j)=some q∧q.1≠ .normal∧P j q) (hN:exS aH c (s n)=some eN) (hn:eN.1≠ .normal):
 ((List.range n).find? p=none∧exS aH (.loop gc dead c) ⟨vs,H⟩=some eN)∨∃j q,(List.range n).find? p=some j∧exS aH (.loop gc dead c) ⟨vs,H⟩=some q∧P j q:=by
 classical
 let e:Nat→Ex×St:=fun j=>if h:j<n∧p j=true then Classical.choose (he j h.1 h.2)else eN
 have h2:∀j,j<n→p j=true→exS aH c (s j)=some (e j)∧(e j).1≠ .normal∧P j (e j):=by
  intro j hj hp
  have e1:e j=Classical.choose (he j hj hp):=dif_pos ⟨hj,hp⟩
  rw[e1]
  exact Classical.choose_spec (he j hj hp)
 have:=cq s n p e eN h0 hs (fun j hj hp=>⟨(h2 j hj hp).1,(h2 j hj hp).2.1⟩) hN hn
 cases hf:(List.range n).find? p with
 | none=>rw[hf]at this;exact .inl ⟨rfl,this⟩
 | some j=>
   rw[hf]at this
   obtain⟨h3,h4⟩:=B7 hf
   exact .inr ⟨j,e j,rfl,this,(h2 j h3 h4).2.2⟩
def um(a b:List Int):Bool:=match (List.range (min a.length b.length)).find? (fun j=>decide (nth a j≠nth b j))with
 | some j=>decide (nth a j<nth b j)
 | none=>decide (a.length<b.length)
theorem I8(a b:List Int)(ha:a.length≤1000000)(hb:b.length≤1000000):aH 0 N.iZ [.t (tL a),.t (tL b)] []=some (B (um a b),[]):=by
 refine av K.tY rfl ?_
 have loop:∀c:D,exS aH K.yf ⟨[.t (tL a),.t (tL b),c,I 0],[]⟩=
  some (match (List.range (min a.length b.length)).find? (fun j=>decide (nth a j≠nth b j))with
   | some j=>(.ret,⟨[.t (tL a),.t (tL b),B (decide (nth a j<nth b j)),I j],[]⟩)
   | none=>(.exit 0,⟨[.t (tL a),.t (tL b),.und,I (min a.length b.length:Nat)],[]⟩)):=by
  intro c
  refine cq (fun j=>⟨[.t (tL a),.t (tL b),.und,I j],[]⟩) (min a.length b.length) (fun j=>decide (nth a j≠nth b j)) _ _ rfl ?_ ?_ ?_ (by simp)
  · intro j hj hp
    have hp:nth a j=nth b j:=by simpa using hp
    simp(disch:=omega)only[go_sem,K.jI,↓reduceIte]
  · intro j hj hp
    have hp:nth a j≠nth b j:=by simpa using hp
    refine⟨?_,by simp⟩
    by_cases h1:nth a j<nth b j
    · simp(disch:=omega)only[go_sem,K.jI,↓reduceIte,h1,decide_true]
    · simp(disch:=omega)only[go_sem,K.jI,↓reduceIte,h1,decide_false]
  · by_cases h1:a.length≤b.length
    · have e:min a.length b.length=a.length:=by omega
      rw[e]
      simp(disch:=omega)only[go_sem,K.jI,↓reduceIte]
    · have e:min a.length b.length=b.length:=by omega
      rw[e]
      simp(disch:=omega)only[go_sem,K.jI,↓reduceIte]
 unfold um
 simp(disch:=omega)only[go_sem,K.iZ,↓reduceIte,loop]
 cases hf:(List.range (min a.length b.length)).find? (fun j=>decide (nth a j≠nth b j))with
 | some j=>simp(disch:=omega)only[go_sem,↓reduceIte]
 | none=>
   by_cases h1:a.length<b.length
   · simp(disch:=omega)only[go_sem,↓reduceIte,h1,decide_true]
   · simp(disch:=omega)only[go_sem,↓reduceIte,h1,decide_false]
def cE(l:List Int)(x:Int):Int:=match (List.range l.length).find? (fun j=>decide (nth l j=x))with
 | some j=>j
 | none=> -1
theorem o5(l:List Int)(x:Int)(hl:l.length≤1000000):aH 0 N.dJ [.t (tL l),I x] []=some (I (cE l x),[]):=by
 refine av K.qb rfl ?_
 have loop:∀c:D,exS aH K.tS ⟨[.t (tL l),I x,c,I 0],[]⟩=
  some (match (List.range l.length).find? (fun j=>decide (nth l j=x))with
   | some j=>(.ret,⟨[.t (tL l),I x,I j,I j],[]⟩)
   | none=>(.exit 0,⟨[.t (tL l),I x,.und,I l.length],[]⟩)):=by
  intro c
  refine cq (fun j=>⟨[.t (tL l),I x,.und,I j],[]⟩) l.length (fun j=>decide (nth l j=x)) _ _ rfl ?_ ?_ ?_ (by simp)
  · intro j hj hp
    have hp:¬nth l j=x:=by simpa using hp
    simp(disch:=omega)only[go_sem,K.lk,↓reduceIte]
  · intro j hj hp
    have hp:nth l j=x:=by simpa using hp
    refine⟨?_,by simp⟩
    simp(disch:=omega)only[go_sem,K.lk,↓reduceIte,hp]
  · simp(disch:=omega)only[go_sem,K.lk,↓reduceIte]
 unfold cE
 simp(disch:=omega)only[go_sem,K.dJ,↓reduceIte,loop]
 cases hf:(List.range l.length).find? (fun j=>decide (nth l j=x))with
 | some j=>simp(disch:=omega)only[go_sem,↓reduceIte]
 | none=>simp(disch:=omega)only[go_sem,↓reduceIte]
theorem zz{l:List Int}{x:Int}(h:0≤cE l x):cE l x<l.length∧nth l (cE l x).toNat=x:=by
 unfold cE at h ⊢
 cases hf:(List.range l.length).find? (fun j=>decide (nth l j=x))with
 | some j=>
   obtain⟨h1,h2⟩:=B7 hf
   simp only[Int.toNat_natCast]
   exact⟨by omega,of_decide_eq_true h2⟩
 | none=>rw[hf]at h;simp at h
def o6(l:List Int)(j:Nat):Bool:=decide (1≤nth l j∧nth l j≤65535∧cE (l.take j) (nth l j)<0)
def iu(l:List Int):Bool:=(List.range l.length).all (o6 l)
theorem GQ(l:List Int)(hl:l.length≤1000000):aH 0 N.fY [.t (tL l)] []=some (B (iu l),[]):=by
 refine av K.p6 rfl ?_
 have loop:∀c:D,exS aH K.tQ ⟨[.t (tL l),c,I 0],[]⟩=
  some (match (List.range l.length).find? (fun j=> !o6 l j)with
   | some j=>(.ret,⟨[.t (tL l),B false,I j],[]⟩)
   | none=>(.exit 0,⟨[.t (tL l),.und,I l.length],[]⟩)):=by
  intro c
  refine cq (fun j=>⟨[.t (tL l),.und,I j],[]⟩) l.length (fun j=> !o6 l j) _ _ rfl ?_ ?_ ?_ (by simp)
  · intro j hj hp
    have hp:o6 l j=true:=by simpa using hp
    have b:=o5 (l.take j) (nth l j) (by rw[List.length_take];omega)
    simp only[o6,decide_eq_true_eq]at hp
    simp only[tL,List.map_take]at b
    simp(disch:=omega)only[go_sem,K.iw,↓reduceIte,b]
  · intro j hj hp
    have hp:o6 l j=false:=by simpa using hp
    have b:=o5 (l.take j) (nth l j) (by rw[List.length_take];omega)
    simp only[o6,decide_eq_false_iff_not]at hp
    simp only[tL,List.map_take]at b
    refine⟨?_,by simp⟩
    by_cases h1:nth l j<1
    · simp(disch:=omega)only[go_sem,K.iw,↓reduceIte,b]
    · by_cases h2:65535<nth l j
      · simp(disch:=omega)only[go_sem,K.iw,↓reduceIte,b]
      · simp(disch:=omega)only[go_sem,K.iw,↓reduceIte,b]
  · simp(disch:=omega)only[go_sem,K.iw,↓reduceIte]
 unfold iu
 rw[rW]
 simp(disch:=omega)only[go_sem,K.fY,↓reduceIte,loop]
 cases hf:(List.range l.length).find? (fun j=> !o6 l j)with
 | some j=>simp(disch:=omega)only[go_sem,↓reduceIte,Option.isNone]
 | none=>simp(disch:=omega)only[go_sem,↓reduceIte,Option.isNone]
structure World where
 tags:List Int
 whr:List Wh
instance : Dat World := ⟨⟨[], []⟩⟩
abbrev World.e(x:World):T:= .agg [tL x.tags,.sl (x.whr.map Wh.e)]
structure Bel where
 ao:List World
instance : Dat Bel := ⟨⟨[]⟩⟩
abbrev Bel.e(b:Bel):T:= .agg [.sl (b.ao.map World.e)]
def World.sz(x:World):Prop:=x.tags.length≤1000000∧x.whr.length≤1000000∧∀w∈x.whr,w.frm.length≤1000000
def Bel.sz(b:Bel):Prop:=b.ao.length≤1000000∧∀x∈b.ao,x.sz
theorem wz(x:World)(h:x.sz)(a:D):exS aH K.pK ⟨[a,.bp 0 0,.bp 1 0,.bp 3 0,I 0],[.box [.t (tL x.tags),.t (.sl (x.whr.map Wh.e))],.box [.nil,.nil],.arr 1 false 0 ((x.tags.map (T.int .i64)).map .t),.box [.ref 2 0 x.tags.length,.ref 5 0 0],.arr 2 false 0 [],.arr 2 false 0 []]⟩=
 some (.exit 0,⟨[.und,.bp 0 0,.bp 1 0,.bp 3 0,I x.whr.length],[.box [.t (tL x.tags),.t (.sl (x.whr.map Wh.e))],.box [.nil,.nil],.arr 1 false 0 ((x.tags.map (T.int .i64)).map .t),.box [.ref 2 0 x.tags.length,.ref 5 0 x.whr.length],.arr 2 false 0 [],.arr 2 false 0 ((x.whr.map Wh.e).map .t)]⟩):=by
 obtain⟨tags,whr⟩:=x
 obtain⟨h1,h2,h3⟩:=h
 simp only at h1 h2 h3 ⊢
 have tk:whr.take whr.length=whr:=by simp
 refine bz (fun j=>⟨[.und,.bp 0 0,.bp 1 0,.bp 3 0,I j],[.box [.t (tL tags),.t (.sl (whr.map Wh.e))],.box [.nil,.nil],.arr 1 false 0 ((tags.map (T.int .i64)).map .t),.box [.ref 2 0 tags.length,.ref 5 0 (whr.take j).length],.arr 2 false 0 [],.arr 2 false 0 (((whr.take j).map Wh.e).map .t)]⟩) whr.length rfl ?_ ?_ (by simp)
 · intro j hj
   have c:=Cb (nth whr j) (by have:=h3 _ (ai hj);omega)
   have lt:(whr.take j).length=j:=by rw[List.length_take];omega
   generalize hx:nth whr j=w at*
   obtain⟨time,frm⟩:=w
   have tk:whr.take (j+1)=whr.take j++[⟨time,frm⟩]:=by rw[ox hj,hx]
   generalize whr.take j=pre at*
   simp(disch:=omega)only[go_sem,K.lA,↓reduceIte,hx,c,lt,tk,reduceAdd,reduceSub]
 · simp(disch:=omega)only[go_sem,K.lA,↓reduceIte,tk]
theorem GR(x:World)(h:x.sz):aH 0 N.bA [.t x.e] []=some (.t x.e,[]):=by
 refine av K.kp rfl ?_
 have loop:=wz x h
 obtain⟨tags,whr⟩:=x
 obtain⟨h1,h2,h3⟩:=h
 simp only at h1 h2 h3 loop ⊢
 simp(disch:=omega)only[go_sem,K.bA,↓reduceIte,loop]
theorem my(x:World)(h:x.sz):aH 1 N.bA [.t x.e] []=some (.agg [.ref 0 0 x.tags.length,.ref 1 0 x.whr.length],[.arr 1 false 0 ((x.tags.map (T.int .i64)).map .t),.arr 2 false 0 ((x.whr.map Wh.e).map .t)]):=by
 refine av K.kp rfl ?_
 have loop:=wz x h
 obtain⟨tags,whr⟩:=x
 obtain⟨h1,h2,h3⟩:=h
 simp only at h1 h2 h3 loop ⊢
 simp(disch:=omega)only[go_sem,K.bA,↓reduceIte,loop]
theorem Am(l:List World)(h1:l.length≤1000000)(h2:∀x∈l,x.sz)(a:D):exS aH K.yb ⟨[a,.bp 0 0,.bp 1 0,.bp 2 0,I 0],[.box [.t (.sl (l.map World.e))],.box [.nil],.box [.ref 3 0 0],.arr 2 false 0 []]⟩=
 some (.exit 0,⟨[.und,.bp 0 0,.bp 1 0,.bp 2 0,I l.length],[.box [.t (.sl (l.map World.e))],.box [.nil],.box [.ref 3 0 l.length],.arr 2 false 0 ((l.map World.e).map .t)]⟩):=by
 have tk:l.take l.length=l:=by simp
 refine bz (fun j=>⟨[.und,.bp 0 0,.bp 1 0,.bp 2 0,I j],[.box [.t (.sl (l.map World.e))],.box [.nil],.box [.ref 3 0 (l.take j).length],.arr 2 false 0 (((l.take j).map World.e).map .t)]⟩) l.length rfl ?_ ?_ (by simp)
 · intro j hj
   have c:=GR (nth l j) (h2 _ (ai hj))
   have lt:(l.take j).length=j:=by rw[List.length_take];omega
   generalize hx:nth l j=w at*
   obtain⟨tags,whr⟩:=w
   have tk:l.take (j+1)=l.take j++[⟨tags,whr⟩]:=by rw[ox hj,hx]
   generalize l.take j=pre at*
   simp(disch:=omega)only[go_sem,K.p7,↓reduceIte,hx,c,lt,tk,reduceAdd,reduceSub]
 · simp(disch:=omega)only[go_sem,K.p7,↓reduceIte,tk]
theorem vo(b:Bel)(h:b.sz):aH 0 N.eT [.t b.e] []=some (.t b.e,[]):=by
 refine av K.pL rfl ?_
 obtain⟨h1,h2⟩:=h
 have loop:=Am b.ao h1 h2
 obtain⟨l⟩:=b
 simp only at h1 h2 loop ⊢
 simp(disch:=omega)only[go_sem,K.eT,↓reduceIte,loop]
theorem I9(b:Bel)(h:b.sz):aH 1 N.eT [.t b.e] []=some (.agg [.ref 0 0 b.ao.length],[.arr 2 false 0 ((b.ao.map World.e).map .t)]):=by
 refine av K.pL rfl ?_
 obtain⟨h1,h2⟩:=h
 have loop:=Am b.ao h1 h2
 obtain⟨l⟩:=b
 simp only at h1 h2 loop ⊢
 simp(disch:=omega)only[go_sem,K.eT,↓reduceIte,loop]
def ND(m:aC)(first:List Int)(x:World)(k:Nat):Bool:=decide (0≤cE first (nth x.tags k))&&dF m (nth x.whr k)
def qU(m:aC)(ws:List World)(first:List Int)(i:Nat):Bool:=
 decide ((nth ws i).tags.length=first.length∧(nth ws i).whr.length=first.length)&&iu (nth ws i).tags&&(decide (i=0)||um (nth ws (i-1)).tags (nth ws i).tags)&&(List.range (nth ws i).tags.length).all (ND m first (nth ws i))
def qV(m:aC)(b:Bel):Bool:=
 decide (1≤b.ao.length∧b.ao.length≤24)&&decide (1≤(nth b.ao 0).tags.length∧(nth b.ao 0).tags.length≤12)&&(List.range b.ao.length).all (qU m b.ao (nth b.ao 0).tags)
theorem Ci{m:aC}(h:m.ok)(ws:List World)(first:List Int)(hf:first.length≤1000000)(hs:∀x∈ws,x.sz)(i:Nat)(hi:i<ws.length)(hl:ws.length≤1000000):
 (qU m ws first i=true→gp true [0,1,4,7,8] 2 (exS aH K.cD ⟨[.und,.und,.bp 0 0,.bp 1 0,.und,.t (tL first),I i,.und,.und],[.box (ae m),.box [.t (.sl (ws.map World.e))]]⟩)=some ⟨[.und,.und,.bp 0 0,.bp 1 0,.und,.t (tL first),I (i+1),.und,.und],[.box (ae m),.box [.t (.sl (ws.map World.e))]]⟩)∧
 (qU m ws first i=false→∃q,exS aH K.cD ⟨[.und,.und,.bp 0 0,.bp 1 0,.und,.t (tL first),I i,.und,.und],[.box (ae m),.box [.t (.sl (ws.map World.e))]]⟩=some q∧q.1= .ret∧q.2.vs[4]?=some (B false)):=by
 have np:=h.np
 have sz:=hs _ (ai hi)
 have sz0:0<i→(nth ws (i-1)).sz:=fun h0=>hs _ (ai (by omega))
 unfold qU
 generalize hy:nth ws (i-1)=y at*
 generalize hx:nth ws i=x at*
 obtain⟨tags,whr⟩:=x
 obtain⟨ptags,pwhr⟩:=y
 obtain⟨s1,s2,s3⟩:=sz
 simp only at s1 s2 s3 sz0 ⊢
 have p:=GQ tags s1
 have inner:tags.length=first.length→whr.length=first.length→∀a b c:D,
  ((List.range tags.length).all (ND m first ⟨tags,whr⟩)=true∧exS aH K.p8 ⟨[a,b,.bp 0 0,.bp 1 0,c,.t (tL first),I i,.bp 2 0,I 0],[.box (ae m),.box [.t (.sl (ws.map World.e))],.box [.t (tL tags),.t (.sl (whr.map Wh.e))]]⟩=
    some (.exit 2,⟨[.und,.und,.bp 0 0,.bp 1 0,.und,.t (tL first),I i,.bp 2 0,I tags.length],[.box (ae m),.box [.t (.sl (ws.map World.e))],.box [.t (tL tags),.t (.sl (whr.map Wh.e))]]⟩))∨
  ((List.range tags.length).all (ND m first ⟨tags,whr⟩)=false∧∃j,exS aH K.p8 ⟨[a,b,.bp 0 0,.bp 1 0,c,.t (tL first),I i,.bp 2 0,I 0],[.box (ae m),.box [.t (.sl (ws.map World.e))],.box [.t (tL tags),.t (.sl (whr.map Wh.e))]]⟩=
    some (.ret,⟨[.und,.und,.bp 0 0,.bp 1 0,B false,.t (tL first),I i,.bp 2 0,j],[.box (ae m),.box [.t (.sl (ws.map World.e))],.box [.t (tL tags),.t (.sl (whr.map Wh.e))]]⟩)):=by
  intro l1 l2 a b c
  have:=cq (gc:=true) (dead:=[0,1,4]) (c:=K.i7) (vs:=[a,b,.bp 0 0,.bp 1 0,c,.t (tL first),I i,.bp 2 0,I 0]) (H:=[.box (ae m),.box [.t (.sl (ws.map World.e))],.box [.t (tL tags),.t (.sl (whr.map Wh.e))]])
   (fun j=>⟨[.und,.und,.bp 0 0,.bp 1 0,.und,.t (tL first),I i,.bp 2 0,I j],[.box (ae m),.box [.t (.sl (ws.map World.e))],.box [.t (tL tags),.t (.sl (whr.map Wh.e))]]⟩) tags.length (fun j=> !ND m first ⟨tags,whr⟩ j)
   (fun j=>(.ret,⟨[.und,.und,.bp 0 0,.bp 1 0,B false,.t (tL first),I i,.bp 2 0,I j],[.box (ae m),.box [.t (.sl (ws.map World.e))],.box [.t (tL tags),.t (.sl (whr.map Wh.e))]]⟩))
   (.exit 2,⟨[.und,.und,.bp 0 0,.bp 1 0,.und,.t (tL first),I i,.bp 2 0,I tags.length],[.box (ae m),.box [.t (.sl (ws.map World.e))],.box [.t (tL tags),.t (.sl (whr.map Wh.e))]]⟩) rfl
   (by
    intro j hj hp
    have hp:ND m first ⟨tags,whr⟩ j=true:=by simpa using hp
    have b:=o5 first (nth tags j) hf
    have v:=EF h (nth whr j) (by have:=s3 _ (ai (l:=whr) (j:=j) (by omega));omega)
    simp only[ND,aLr,decide_eq_true_eq]at hp
    rw[hp.2]at v
    have hp:=hp.1
    simp(disch:=omega)only[go_sem,K.i7,↓reduceIte,b,v])
   (by
    intro j hj hp
    have hp:ND m first ⟨tags,whr⟩ j=false:=by simpa using hp
    have b:=o5 first (nth tags j) hf
    have v:=EF h (nth whr j) (by have:=s3 _ (ai (l:=whr) (j:=j) (by omega));omega)
    refine⟨?_,by simp⟩
    by_cases c1:cE first (nth tags j)<0
    · simp(disch:=omega)only[go_sem,K.i7,↓reduceIte,b,v]
    · have:dF m (nth whr j)=false:=by
       simp only[ND,Bool.and_eq_false_iff,decide_eq_false_iff_not]at hp
       rcases hp with hp | hp
       · exact absurd (by omega) hp
       · exact hp
      rw[this]at v
      simp(disch:=omega)only[go_sem,K.i7,↓reduceIte,b,v])
   (by simp(disch:=omega)only[go_sem,K.i7,↓reduceIte]) (by simp)
  cases hf:(List.range tags.length).find? (fun j=> !ND m first ⟨tags,whr⟩ j)with
  | none=>rw[hf]at this;exact .inl ⟨by rw[rW,hf];rfl,this⟩
  | some j=>rw[hf]at this;exact .inr ⟨by rw[rW,hf];rfl,⟨_,this⟩⟩
 by_cases l1:tags.length=first.length
 · by_cases l2:whr.length=first.length
   · cases hp:iu tags with
     | false=>
       rw[hp]at p
       refine⟨fun h=>by simp[hp]at h,fun _=>?_⟩
       simp(disch:=omega)only[go_sem,K.cD,↓reduceIte,hx,p]
       refine⟨_,rfl,?_,?_⟩<;>rfl
     | true=>
       rw[hp]at p
       have inner:=inner l1 l2
       cases i with
       | zero=>
         simp only[IU]at inner
         simp only[l1,l2,and_self,decide_true,Bool.true_and,Bool.true_or]at inner ⊢
         rcases inner .und .und .und with⟨e, -⟩ | ⟨e, -⟩
         · refine⟨fun _=>?_,fun h=>by rw[e]at h;exact absurd h (by simp)⟩
           have inner:=fun a b c=>((inner a b c).resolve_right fun h=>by rw[e]at h;exact absurd h.1 (by simp)).2
           simp(disch:=omega)only[go_sem,K.cD,↓reduceIte,hx,p,inner]
         · refine⟨fun h=>by rw[e]at h;exact absurd h (by simp),fun _=>?_⟩
           have inner:∀a b c,_:=fun a b c=>((inner a b c).resolve_left fun h=>by rw[e]at h;exact absurd h.1 (by simp)).2
           obtain⟨j,inner⟩:=inner .und .und .und
           simp(disch:=omega)only[go_sem,K.cD,↓reduceIte,hx,p,inner]
           refine⟨_,rfl,?_,?_⟩<;>rfl
       | succ i=>
         simp only[L9,Ma]at inner
         rw[Nat.add_sub_cancel]at hy
         have ls:=I8 ptags tags (sz0 (by omega)).1 s1
         cases hl:um ptags tags with
         | false=>
           rw[hl]at ls
           refine⟨fun h=>by simp at h,fun _=>?_⟩
           simp(disch:=omega)only[go_sem,K.cD,↓reduceIte,hx,p,hy,ls]
           refine⟨_,rfl,?_,?_⟩<;>rfl
         | true=>
           rw[hl]at ls
           simp only[l1,l2,and_self,decide_true,Bool.true_and,Bool.or_true]at inner ⊢
           rcases inner .und .und .und with⟨e, -⟩ | ⟨e, -⟩
           · refine⟨fun _=>?_,fun h=>by rw[e]at h;exact absurd h (by simp)⟩
             have inner:=fun a b c=>((inner a b c).resolve_right fun h=>by rw[e]at h;exact absurd h.1 (by simp)).2
             simp(disch:=omega)only[go_sem,K.cD,↓reduceIte,hx,hy,ls,p,inner]
           · refine⟨fun h=>by rw[e]at h;exact absurd h (by simp),fun _=>?_⟩
             have inner:∀a b c,_:=fun a b c=>((inner a b c).resolve_left fun h=>by rw[e]at h;exact absurd h.1 (by simp)).2
             obtain⟨j,inner⟩:=inner .und .und .und
             simp(disch:=omega)only[go_sem,K.cD,↓reduceIte,hx,hy,ls,p,inner]
             refine⟨_,rfl,?_,?_⟩<;>rfl
   · refine⟨fun h=>by simp[l2]at h,fun _=>?_⟩
     simp(disch:=omega)only[go_sem,K.cD,↓reduceIte,hx,p]
     refine⟨_,rfl,?_,?_⟩<;>rfl
 · refine⟨fun h=>by simp[l1]at h,fun _=>?_⟩
   simp(disch:=omega)only[go_sem,K.cD,↓reduceIte,hx,p]
   refine⟨_,rfl,?_,?_⟩<;>rfl
theorem Pv{m:aC}(h:m.ok)(b:Bel)(hs:b.sz):aH 0 N.dI [.t m.e,.t b.e] []=some (B (qV m b),[]):=by
 refine av K.rL rfl ?_
 obtain⟨h1,h2⟩:=hs
 have ck:=pO h
 obtain⟨ws⟩:=b
 unfold qV
 simp only at h1 h2 ⊢
 by_cases c1:ws.length<1
 · simp(disch:=omega)only[go_sem,K.dI,↓reduceIte,show ¬(1≤ws.length∧ws.length≤24)by omega,decide_false,Bool.false_and]
 · by_cases c2:24<ws.length
   · simp(disch:=omega)only[go_sem,K.dI,↓reduceIte,show ¬(1≤ws.length∧ws.length≤24)by omega,decide_false,Bool.false_and]
   · have c3:1≤ws.length∧ws.length≤24:=by omega
     have sz:=h2 _ (ai (l:=ws) (j:=0) (by omega))
     have i0:(ws.map World.e)[0]?=some (nth ws 0).e:=bR _ (by omega)
     generalize hx:nth ws 0=x at*
     obtain⟨first,whr⟩:=x
     have hf:=sz.1
     simp only at hf ⊢
     by_cases c4:first.length<1
     · simp(disch:=omega)only[go_sem,K.dI,↓reduceIte,ck,hx,c3,and_self,show ¬(1≤first.length∧first.length≤12)by omega,decide_true,decide_false,Bool.true_and,Bool.false_and]
     · by_cases c5:12<first.length
       · simp(disch:=omega)only[go_sem,K.dI,↓reduceIte,ck,hx,c3,and_self,show ¬(1≤first.length∧first.length≤12)by omega,decide_true,decide_false,Bool.true_and,Bool.false_and]
       · have loop:=fun a b c d e=>ny (gc:=true) (dead:=[0,1,4,7,8]) (c:=K.cD) (vs:=[a,b,.bp 0 0,.bp 1 0,c,.t (tL first),I 0,d,e]) (H:=[.box (ae m),.box [.t (.sl (ws.map World.e))]])
          (fun j=>⟨[.und,.und,.bp 0 0,.bp 1 0,.und,.t (tL first),I j,.und,.und],[.box (ae m),.box [.t (.sl (ws.map World.e))]]⟩) ws.length (fun j=> !qU m ws first j) (fun _ q=>q.1= .ret∧q.2.vs[4]?=some (B false))
          (.exit 0,⟨[.und,.und,.bp 0 0,.bp 1 0,.und,.t (tL first),I ws.length,.und,.und],[.box (ae m),.box [.t (.sl (ws.map World.e))]]⟩) rfl
          (fun j hj hp=>(Ci h ws first hf h2 j hj h1).1 (by simpa using hp))
          (fun j hj hp=>by
           obtain⟨q,q1,q2,q3⟩:=(Ci h ws first hf h2 j hj h1).2 (by simpa using hp)
           exact⟨q,q1,by rw[q2];simp,q2,q3⟩)
          (by simp(disch:=omega)only[go_sem,K.cD,↓reduceIte]) (by simp)
         rw[rW]
         rcases loop (.t m.e) (.t (Bel.e ⟨ws⟩)) (B false) .und .und with⟨e1,e2⟩ | ⟨j,⟨x,vs,H⟩,e1,e2,e3,e4⟩
         · have e2:exS aH K.p9 ⟨[.t m.e,.t (Bel.e ⟨ws⟩),.bp 0 0,.bp 1 0,B false,.t (tL first),I 0,.und,.und],[.box (ae m),.box [.t (.sl (ws.map World.e))]]⟩=_:=e2
           simp(disch:=omega)only[go_sem,K.dI,↓reduceIte,ck,hx,c3,and_self,show(1≤first.length∧first.length≤12)by omega,decide_true,decide_false,Bool.true_and,e1,e2,Option.isNone]
         · have e2:exS aH K.p9 ⟨[.t m.e,.t (Bel.e ⟨ws⟩),.bp 0 0,.bp 1 0,B false,.t (tL first),I 0,.und,.und],[.box (ae m),.box [.t (.sl (ws.map World.e))]]⟩=_:=e2
           simp only at e3 e4
           subst e3
           simp(disch:=omega)only[go_sem,K.dI,↓reduceIte,ck,hx,c3,and_self,show(1≤first.length∧first.length≤12)by omega,decide_true,decide_false,Bool.true_and,e1,e2,Option.isNone]
           simp(disch:=omega)only[go_sem,j7,e4,List.take_zero]
end Go.Ev
namespace Go.Ev.K
open Go.Ev
def r7:C:= (.seq (.ite [m v5,f 0 v1,g l0,m v4,a 2 l1 l0,f 1 l0,g l0,u (.ln l0),u (.bin .lss l7 l0)] [] 0 .skip (.exit 2)) (.seq (.blk 3 (.reg [m v3,f 0 v1,g l0,m v4,a 2 l1 l0,f 1 l0,g l0,m v5,a 2 l1 l0,f 0 l0,g l0,u (.mx [.l 10,.l 0]),x 3 l0] [])) (.reg [m v5,u (.bin .add l0 (.i 1)),x 5 l0] [])))
def An:C:= .loop true [0,2] K.r7
def r9:C:= (.seq (.ite [m v4,f 0 v1,g l0,u (.ln l0),u (.bin .lss l3 l0)] [] 0 .skip (.exit 0)) (.seq (.blk 1 (q [x 5 (.i 0)] [] (.blk 2 K.An))) (.reg [m v4,u (.bin .add l0 (.i 1)),x 4 l0] [])))
def Ao:C:= .loop true [0,2,5] K.r9
def kR:Fn:= { aP:=1,vars:=[0,1,2,3,4,5],body:=(q [w 1 (.bx v0 1),x 2 (.i 0)] [] (q [x 3 (.i 0)] [] (.seq (q [x 4 (.i 0)] [] (.blk 0 K.Ao)) (q [m v3,x 2 l0] [] .ret)))),res:=[(2,none)]}
end Go.Ev.K
namespace Go.Ev
class fR [Lib]:Prop where
 xg:Lib.fs N.kR=some K.kR
namespace K
variable [Lib] [fR]
theorem xg:Lib.fs N.kR=some K.kR:=fR.xg
end K
end Go.Ev
namespace Go.Ev.K
open Go.Ev
def gE:C:= (.its [u (.bin .lss v8 v7)] [] 0 .skip (.exit 0) (.seq (.blk 1 (q [m v8,a 1 v6 v8,g l0,x 4 l2,x 5 l1] [] (.ite [m v5,m v1,u (.bin .lss l1 l0),m l0,e 0 false v5,e 1 false v2,y 2 false (.bin .gtr l1 l0),u (.pk l3 (.b true) l0),m l0,e 0 false v4,y 1 false (.bin .gtr l0 (.i 0)),e 2 false l0,e 0 true v5,e 1 true v0,e 2 true v4,y 3 true (.bin .sub l0 (.i 1)),y 4 true (.ia l2 l0 1),i 5 true l0,y 6 true (.bin .leq l5 l0),y 10 false (.pk l7 l0 (.b false)),u (.pk l11 (.b true) l0)] [] 0 (q [x 3 (.b false)] [] .ret) .skip))) (.reg [u (.bin .add v8 (.i 1)),x 8 l0] [])))
def uo:C:= .loop true [3,4,5] K.gE
def dm:Fn:= { aP:=3,vars:=[0,1,2,6,7,8,9,10,11],body:=(q [x 3 (.b false)] [] (.seq (q [x 6 v0,w 7 (.ln l0),x 8 (.i 0)] [] (.blk 0 K.uo)) (q [x 3 (.b true)] [] .ret))),res:=[(3,none)]}
def m5:C:= (.seq (.ite [m v4,f 0 v1,g l0,u (.ln l0),u (.bin .lss l3 l0)] [] 0 .skip (.exit 0)) (.seq (.blk 1 (.reg [f 0 v3,g l0,f 0 v1,g l0,m v4,a 2 l1 l0,h 2 l0,u (.ca N.bA 1 [] [.l 0]),u (.bsr [.l 0] 2),u (.app l7 l0 false 2),f 0 v3,u (.st l0 l1 1 [])] [(1,8),(1,9)])) (.reg [m v4,u (.bin .add l0 (.i 1)),x 4 l0] [])))
def s5:C:= .loop false [0] K.m5
def fQ:Fn:= { aP:=1,vars:=[0,1,2,3,4],body:=(q [w 1 (.bx v0 1),w 2 (.al [.nil] [])] [] (q [w 3 (.al [.nil] [(0,2)])] [] (.seq (q [x 4 (.i 0)] [] (.blk 0 K.s5)) (q [h 1 v3,u (.st v2 l0 1 [])] [] .ret)))),res:=[(2,some (1,true))]}
end Go.Ev.K
namespace Go.Ev
class fS [Lib]:Prop where
 ql:Lib.fs N.dm=some K.dm
 o7:Lib.fs N.fQ=some K.fQ
namespace K
variable [Lib] [fS]
theorem ql:Lib.fs N.dm=some K.dm:=fS.ql
theorem o7:Lib.fs N.fQ=some K.fQ:=fS.o7
end K
end Go.Ev
namespace Go.Ev
open Go
variable [Lib] [bX] [bJ] [fR] [fS]
def Pw(l:List Int)(lo hi:Int)(j:Nat):Bool:= !decide (lo≤nth l j∧nth l j≤hi∧(0<j→nth l (j-1)<nth l j))
def Vt(l:List Int)(lo hi:Int):Bool:= !((List.range l.length).any (Pw l lo hi))
theorem qW(l:List Int)(lo hi:Int)(hl:l.length≤4294967296):aH 0 N.dm [.t (tL l),I lo,I hi] []=some (B (Vt l lo hi),[]):=by
 refine av K.ql rfl ?_
 have loop:∀a b c:D,exS aH K.uo ⟨[.t (tL l),I lo,I hi,a,b,c,.t (tL l),I l.length,I 0],[]⟩=
  some (if(List.range l.length).any (Pw l lo hi)=true
   then(.ret,⟨[.t (tL l),I lo,I hi,B false,I (GM l.length (Pw l lo hi)),I (nth l (GM l.length (Pw l lo hi))),.t (tL l),I l.length,I (GM l.length (Pw l lo hi))],[]⟩)
   else(.exit 0,⟨[.t (tL l),I lo,I hi,.und,.und,.und,.t (tL l),I l.length,I l.length],[]⟩)):=by
  intro a b c
  refine O7 (fun j=>⟨[.t (tL l),I lo,I hi,.und,.und,.und,.t (tL l),I l.length,I j],[]⟩) l.length (Pw l lo hi) (fun j=>(.ret,⟨[.t (tL l),I lo,I hi,B false,I j,I (nth l j),.t (tL l),I l.length,I j],[]⟩)) _ rfl ?_ ?_ ?_ (by simp)
  · intro j hj hp
    simp only[Pw,Bool.not_eq_false',decide_eq_true_eq]at hp
    obtain⟨h1,h2,h3⟩:=hp
    cases j with
    | zero=>simp(disch:=omega)only[go_sem,K.gE,↓reduceIte]
    | succ j=>
      have h3:=h3 (by omega)
      rw[Nat.add_sub_cancel]at h3
      simp(disch:=omega)only[go_sem,K.gE,↓reduceIte]
  · intro j hj hp
    simp only[Pw,Bool.not_eq_true',decide_eq_false_iff_not]at hp
    refine⟨?_,by simp⟩
    by_cases h1:lo≤nth l j
    · by_cases h2:nth l j≤hi
      · cases j with
        | zero=>exact absurd ⟨h1,h2,fun h=>absurd h (by omega)⟩ hp
        | succ j=>
          have h3:¬nth l j<nth l (j+1):=fun h=>hp ⟨h1,h2,fun _=>by simpa using h⟩
          simp(disch:=omega)only[go_sem,K.gE,↓reduceIte]
      · simp(disch:=omega)only[go_sem,K.gE,↓reduceIte]
    · simp(disch:=omega)only[go_sem,K.gE,↓reduceIte]
  · simp(disch:=omega)only[go_sem,K.gE,↓reduceIte]
 unfold Vt
 simp(disch:=omega)only[go_sem,K.dm,↓reduceIte,loop]
 cases hf:(List.range l.length).any (Pw l lo hi)with
 | true=>simp(disch:=omega)only[go_sem,↓reduceIte]
 | false=>simp(disch:=omega)only[go_sem,↓reduceIte,aLt]
theorem zA(l:List Int)(n:Int):Vt l 0 (n-1)=rq l n:=by
 unfold Vt rq
 rw[O8]
 refine congrArg (!·) (congrArg _ (funext fun j=>?_))
 unfold Pw
 refine congrArg (!·) (decide_eq_decide.2 ⟨fun h=>⟨h.1,by omega,h.2.2⟩,fun h=>⟨h.1,by omega,h.2.2⟩⟩)
structure agM where
 st:Int
 fi:Int
 se:Int
 ti:Int
abbrev agM.e(s:agM):T:= .agg [tI s.st,tI s.fi,tI s.se,tI s.ti]
structure S7 where
 area:List Int
 hold:Int
 mis:Int
abbrev S7.e(x:S7):T:= .agg [tL x.area,tI x.hold,tI x.mis]
structure Keys where
 roads:List Int
 keys:List Int
 out:Bool
abbrev Keys.e(k:Keys):T:= .agg [tL k.roads,tL k.keys,.bool k.out]
end Go.Ev
namespace Go.Ev
open Go
variable [Lib] [bX] [bJ] [fR] [fS] [fy] [fo] [gU] [fM]
theorem Mm(x:Int):aH 0 N.bZ [I x] []=some (B (!decide (plT x)),[]):=by
 refine av K.m0 rfl ?_
 have i:=C3 x 0 2147483648
 unfold plT inT
 by_cases c:x=1099511627776
 · subst c
   simp(disch:=omega)only[go_sem,K.bZ,↓reduceIte,reduceAdd,reduceSub]
 · by_cases c2:0≤x∧x≤2147483648
   · simp only[c2,and_self,decide_true]at i
     simp(disch:=omega)only[go_sem,K.bZ,↓reduceIte,i,c,c2,false_or,and_self,decide_true,reduceAdd,reduceSub]
   · simp only[c2,decide_false]at i
     simp(disch:=omega)only[go_sem,K.bZ,↓reduceIte,i,c,c2,false_or,decide_false,reduceAdd,reduceSub]
theorem GS(m:aC)(hm:m.aa.length≤1000000)(w:Wh)(hl:w.frm.length≤1000000):aH 0 N.dB [.t m.e,.t w.e] []=some (B (ky w m.aa.length),[]):=by
 refine av K.oZ rfl ?_
 have i:=C3 w.time 0 2147483648
 have cf:aH 0 N.aK [.t (tL w.frm),.fn N.bZ []] []=some (B (w.frm.any fun x=> !decide (plT x)),[]):=uf w.frm (by omega) N.bZ [] (fun x=> !decide (plT x)) (fun x _=>Mm x)
 have e:ky w m.aa.length=(decide ((w.frm.length:Int)=m.aa.length∧inT w.time)&& !(w.frm.any fun x=> !decide (plT x))):=by
  unfold ky
  rw[O8,XQ w.frm (fun x=> !decide (plT x))]
 rw[e]
 unfold inT
 generalize (w.frm.any fun x=> !decide (plT x))=r at*
 obtain⟨aa,roads⟩:=m
 obtain⟨time,frm⟩:=w
 simp only at*
 clear e
 by_cases c1:(frm.length:Int)=aa.length
 · by_cases c2:0≤time∧time≤2147483648
   · simp only[c2,and_self,decide_true]at i
     cases r<;>simp(disch:=omega)only[go_sem,K.dB,↓reduceIte,i,cf,c1,c2,and_self,decide_true,Bool.true_and,reduceAdd,reduceSub]
   · simp only[c2,decide_false]at i
     simp(disch:=omega)only[go_sem,K.dB,↓reduceIte,i,cf,c1,c2,and_false,decide_false,Bool.false_and,reduceAdd,reduceSub]
 · simp(disch:=omega)only[go_sem,K.dB,↓reduceIte,c1,false_and,decide_false,Bool.false_and,reduceAdd,reduceSub]
theorem Px{m:aC}(h:m.ok)(w:Wh)(hl:w.frm.length≤1000000):aH 0 N.gg [.t m.e,.t w.e] []=some (B (dF m w),[]):=by
 refine av K.qj rfl ?_
 have np:=h.np
 have v:=jk h
 have s:=GS m (by omega) w hl
 unfold dF
 cases hp:ky w m.aa.length with
 | false=>
   rw[hp]at s
   obtain⟨aa,roads⟩:=m
   obtain⟨time,frm⟩:=w
   simp only at*
   simp(disch:=omega)only[go_sem,K.gg,↓reduceIte,v,s,Bool.false_and,reduceAdd,reduceSub]
 | true=>
   rw[hp]at s
   obtain⟨p1,p2,p3⟩:=lB hp
   have hb:bnd w.frm:=fun x hx=>mW (p3 x hx)
   have lo:=(DT h w.time (by unfold inT at p2;omega) (by unfold inT at p2;omega) w.frm (by omega) hb).1
   have ll:=lI h w.time p2 none (by simp) (l:=w.frm) (by omega) hb
   have eq:=KN (dE m w.time none w.frm) w.frm (by omega) (by omega)
   generalize dE m w.time none w.frm=c at*
   obtain⟨aa,roads⟩:=m
   obtain⟨time,frm⟩:=w
   simp only at*
   clear hb p3
   simp(disch:=omega)only[go_sem,K.gg,↓reduceIte,v,s,lo,eq,Bool.true_and,reduceAdd,reduceSub]
def cO(m:aC)(w:Wh)(t:Int):Wh×Int:=if ky w m.aa.length=false then(w,6)else if t<w.time∨2147483648<t then(w,8)else(⟨t,dE m t none w.frm⟩,0)
theorem Py{m:aC}(h:m.ok)(w:Wh)(t:Int)(hl:w.frm.length≤1000000):aH 0 N.ed [.t m.e,.t w.e,I t] []=some (.tup [.t (cO m w t).1.e,I (cO m w t).2],[]):=by
 refine av K.qk rfl ?_
 have np:=h.np
 have v:=jk h
 have s:=GS m (by omega) w hl
 unfold cO
 cases hp:ky w m.aa.length with
 | false=>
   rw[hp]at s
   rw[if_pos rfl]
   obtain⟨aa,roads⟩:=m
   obtain⟨time,frm⟩:=w
   simp only at*
   simp(disch:=omega)only[go_sem,K.ed,↓reduceIte,v,s,reduceAdd,reduceSub]
 | true=>
   rw[hp]at s
   obtain⟨p1,p2,p3⟩:=lB hp
   have hb:bnd w.frm:=fun x hx=>mW (p3 x hx)
   unfold inT at p2
   by_cases c1:t<w.time
   · rw[if_neg (by simp),if_pos (.inl c1)]
     obtain⟨aa,roads⟩:=m
     obtain⟨time,frm⟩:=w
     simp only at*
     simp(disch:=omega)only[go_sem,K.ed,↓reduceIte,v,s,c1,reduceAdd,reduceSub]
   · by_cases c2:2147483648<t
     · rw[if_neg (by simp),if_pos (.inr c2)]
       obtain⟨aa,roads⟩:=m
       obtain⟨time,frm⟩:=w
       simp only at*
       simp(disch:=omega)only[go_sem,K.ed,↓reduceIte,v,s,c1,c2,reduceAdd,reduceSub]
     · have lo:=(DT h t (by omega) (by omega) w.frm (by omega) hb).1
       rw[if_neg (by simp),if_neg (by omega)]
       generalize dE m t none w.frm=c at*
       obtain⟨aa,roads⟩:=m
       obtain⟨time,frm⟩:=w
       simp only at*
       clear hb p3
       simp(disch:=omega)only[go_sem,K.ed,↓reduceIte,v,s,c1,c2,lo,reduceAdd,reduceSub]
theorem Pz{m:aC}(h:m.ok)(w:Wh)(t:Int)(hl:w.frm.length≤1000000):aH 0 N.fH [.t m.e,.t w.e,I t] []=some (.tup [.t (cO m w t).1.e,I (cO m w t).2],[]):=by
 refine av K.r6 rfl ?_
 have np:=h.np
 have v:=pO h
 have s:=Bc w m.aa.length (by omega)
 have cp:=Cb w (by omega)
 unfold cO
 cases hp:ky w m.aa.length with
 | false=>
   rw[hp]at s
   rw[if_pos rfl]
   obtain⟨aa,roads⟩:=m
   obtain⟨time,frm⟩:=w
   simp only at*
   simp(disch:=omega)only[go_sem,K.fH,↓reduceIte,v,s,cp,reduceAdd,reduceSub]
 | true=>
   rw[hp]at s
   obtain⟨p1,p2,p3⟩:=lB hp
   have hb:bnd w.frm:=fun x hx=>mW (p3 x hx)
   unfold inT at p2
   by_cases c1:t<w.time
   · rw[if_neg (by simp),if_pos (.inl c1)]
     obtain⟨aa,roads⟩:=m
     obtain⟨time,frm⟩:=w
     simp only at*
     simp(disch:=omega)only[go_sem,K.fH,↓reduceIte,v,s,c1,cp,reduceAdd,reduceSub]
   · by_cases c2:2147483648<t
     · rw[if_neg (by simp),if_pos (.inr c2)]
       obtain⟨aa,roads⟩:=m
       obtain⟨time,frm⟩:=w
       simp only at*
       simp(disch:=omega)only[go_sem,K.fH,↓reduceIte,v,s,c1,c2,cp,reduceAdd,reduceSub]
     · have lo:=yk h t (by unfold inT;omega) w.frm (by omega) hb
       rw[if_neg (by simp),if_neg (by omega)]
       generalize dE m t none w.frm=c at*
       obtain⟨aa,roads⟩:=m
       obtain⟨time,frm⟩:=w
       simp only at*
       clear hb p3
       simp(disch:=omega)only[go_sem,K.fH,↓reduceIte,v,s,c1,c2,lo,reduceAdd,reduceSub]
end Go.Ev
namespace Go.Ev.N
def RI:Nat:=215
def RJ:Nat:=216
def RK:Nat:=217
def Yu:Nat:=218
def Yv:Nat:=219
def Yw:Nat:=220
def abw:Nat:=221
def abx:Nat:=222
def aby:Nat:=223
def aei:Nat:=224
def Yx:Nat:=225
def Yy:Nat:=226
def Yz:Nat:=227
def aej:Nat:=228
def YA:Nat:=229
def YB:Nat:=230
def abz:Nat:=231
def Vu:Nat:=232
def abA:Nat:=233
def Vv:Nat:=234
def Vw:Nat:=235
def Vx:Nat:=236
def abB:Nat:=237
def Vy:Nat:=238
def aek:Nat:=239
def ael:Nat:=240
def bN:Nat:=241
def abC:Nat:=242
def YC:Nat:=243
def RL:Nat:=244
end Go.Ev.N
namespace Go.Ev.N
def KO:Nat:=245
def Ja:Nat:=246
def Jb:Nat:=247
def YD:Nat:=248
def S8:Nat:=249
def YE:Nat:=250
def KP:Nat:=251
def RM:Nat:=252
def PA:Nat:=253
def YF:Nat:=254
def Vz:Nat:=255
def abD:Nat:=256
def gF:Nat:=257
def Mn:Nat:=258
def sg:Nat:=259
def cF:Nat:=260
def bk:Nat:=261
def gM:Nat:=262
def aZ:Nat:=263
def au:Nat:=264
def dP:Nat:=265
def tA:Nat:=266
def aR:Nat:=267
def cR:Nat:=268
def az:Nat:=269
def cmp_isNaN_int:Nat:=270
end Go.Ev.N
namespace Go.Ev.N
def Mo:Nat:=271
def PB:Nat:=272
def PC:Nat:=273
def NF:Nat:=274
def RN:Nat:=275
def PD:Nat:=276
def YG:Nat:=277
def YH:Nat:=278
def abE:Nat:=279
def abF:Nat:=280
def RO:Nat:=281
def aem:Nat:=282
def VA:Nat:=283
def YI:Nat:=284
def YJ:Nat:=285
def abG:Nat:=286
def yY:Nat:=287
def abH:Nat:=288
def lC:Nat:=289
def YK:Nat:=290
def YL:Nat:=291
def YM:Nat:=292
def RP:Nat:=293
def fJ:Nat:=294
def eO:Nat:=295
def VB:Nat:=296
def yv:Nat:=297
def yw:Nat:=298
def S9:Nat:=299
def DU:Nat:=300
def s8:Nat:=301
def xh:Nat:=302
def Aq:Nat:=303
def vJ:Nat:=304
def yZ:Nat:=305
def Ar:Nat:=306
def yx:Nat:=307
def eD:Nat:=308
end Go.Ev.N
namespace Go.Ev.N
def VC:Nat:=309
def PE:Nat:=310
def RQ:Nat:=311
def RR:Nat:=312
def PF:Nat:=313
def YN:Nat:=314
def ai5:Nat:=315
def aen:Nat:=316
def YO:Nat:=317
def YP:Nat:=318
def YQ:Nat:=319
def YR:Nat:=320
def aeo:Nat:=321
def aep:Nat:=322
def YS:Nat:=323
def Ta:Nat:=324
def aeq:Nat:=325
def agN:Nat:=326
def eE:Nat:=327
def VD:Nat:=328
def Tb:Nat:=329
def aM:Nat:=330
def aN:Nat:=331
def Tc:Nat:=332
def PG:Nat:=333
end Go.Ev.N
namespace Go.Ev.K
open Go.Ev
end Go.Ev.K
namespace Go.Ev
class jb [Lib]:Prop where
namespace K
variable [Lib] [jb]
end K
end Go.Ev
namespace Go.Ev.K
open Go.Ev
def mz:C:= (.seq (.ite [m v5,f 0 v2,g l0,u (.ln l0),u (.bin .lss l3 l0)] [] 0 .skip (.exit 0)) (.seq (.blk 1 (.ite [f 0 v2,g l0,m v5,a 2 l1 l0,h 2 l0,f 0 v3,g l0,m v5,a 2 l1 l0,h 2 l0,u (.eqk (.sc [true,false]) true l5 l0)] [] 0 (q [x 4 (.b false)] [] .ret) .skip)) (.reg [m v5,u (.bin .add l0 (.i 1)),x 5 l0] [])))
def qX:C:= .loop true [0,1,4,6] K.mz
def mA:C:= (.seq (.ite [m v6,f 1 v2,g l0,u (.ln l0),u (.bin .lss l3 l0)] [] 0 .skip (.exit 2)) (.seq (.blk 3 (.ite [f 1 v2,g l0,m v6,a 10 l1 l0,h 10 l0,f 1 v3,g l0,m v6,a 10 l1 l0,h 10 l0,u (.eqk (.sc [true,true,true,true,false,false,true,true,true,true]) true l5 l0)] [] 0 (q [x 4 (.b false)] [] .ret) .skip)) (.reg [m v6,u (.bin .add l0 (.i 1)),x 6 l0] [])))
def qY:C:= .loop true [0,1,4,5] K.mA
def eE:Fn:= { aP:=2,vars:=[0,1,2,3,4,5,6],body:=(q [w 2 (.bx v0 2),w 3 (.bx v1 2),x 4 (.b false)] [] (.seq (.ite [f 0 v2,g l0,u (.ln l0),f 0 v3,g l0,u (.ln l0),u (.bin .neq l3 l0),m l0,y 0 false (.fa v2 1),i 1 false l0,y 2 false (.ln l0),y 3 false (.fa v3 1),i 4 false l0,y 5 false (.ln l0),y 6 false (.bin .neq l3 l0),u (.pk l7 (.b true) l0)] [] 0 (q [x 4 (.b false)] [] .ret) .skip) (.seq (q [x 5 (.i 0)] [] (.blk 0 K.qX)) (.seq (q [x 6 (.i 0)] [] (.blk 2 K.qY)) (q [x 4 (.b true)] [] .ret))))),res:=[(4,none)]}
def aM:Fn:= { aP:=1,vars:=[0,2],body:=(q [w 1 (.mv (.c (.nil)))] [] (.itk [m v0,u (.eqk (.sl) false l0 (.c (.nil)))] [] 0 (q [w 1 (.nw 2)] [] .ret) .skip (q [u (.bsr [] 2),m v0,u (.app l1 l0 false 2),x 1 l0] [] .ret))),res:=[(1,none)]}
def aN:Fn:= { aP:=1,vars:=[0,2],body:=(q [w 1 (.mv (.c (.nil)))] [] (.itk [m v0,u (.eqk (.sl) false l0 (.c (.nil)))] [] 0 (q [w 1 (.nw 10)] [] .ret) .skip (q [u (.bsr [] 10),m v0,u (.app l1 l0 false 10),x 1 l0] [] .ret))),res:=[(1,none)]}
end Go.Ev.K
namespace Go.Ev
class iE [Lib]:Prop where
 nQ:Lib.fs N.eE=some K.eE
 eh:Lib.fs N.aM=some K.aM
 fh:Lib.fs N.aN=some K.aN
namespace K
variable [Lib] [iE]
theorem nQ:Lib.fs N.eE=some K.eE:=iE.nQ
theorem eh:Lib.fs N.aM=some K.aM:=iE.eh
theorem fh:Lib.fs N.aN=some K.aN:=iE.fh
end K
end Go.Ev
namespace Go.Ev
open Go
variable [Lib] [bX] [bJ] [fR] [fS] [fy] [fo] [gU] [fM] [jb] [iE]
end Go.Ev
namespace Go.Ev
open Go
variable [Lib] [bX] [bJ]
@[go_sem] theorem YT (l : List Place) : wT 2 (l.map Place.e) = true := by cases l <;> rfl
@[go_sem] theorem abI (l : List Road) : wT 10 (l.map Road.e) = true := by cases l <;> rfl
@[go_sem] theorem abJ (H : aq) (d : aF) : Su H 0 1 false (some d.obj) = some (.t (tL d.L), H) := by simp only [aF.obj, go_sem]
def aF.gj(d:aF):Nat→List Place×aF
 | 0=>([],d)
 | k+1=>if k=0 then((d.gj k).1++[⟨-10*((d.gj k).2.next 4).1,true⟩],((d.gj k).2.next 4).2)
   else((d.gj k).1++[⟨-10*((d.gj k).2.next 4).1,(((d.gj k).2.next 4).2.one 6).1⟩],(((d.gj k).2.next 4).2.one 6).2)
def aF.Mp(d:aF)(i:Int):Road×aF:=
 (⟨i-1-(d.next (min i 2)).1,i,1+((d.next (min i 2)).2.of [11,59,119,4]).1,1+(((d.next (min i 2)).2.of [11,59,119,4]).2.of [9,3,19]).1,true,false,1,1,0,0⟩,
   (((d.next (min i 2)).2.of [11,59,119,4]).2.of [9,3,19]).2)
def aF.mB(d:aF):Nat→List Road×aF
 | 0=>([],d)
 | k+1=>((d.mB k).1++[((d.mB k).2.Mp (k+1)).1],((d.mB k).2.Mp (k+1)).2)
def aF.si(d:aF)(n:Int):Road×aF:=
 let a:=d.next n
 let b:=a.2.next n
 let l:=b.2.of [11,59,199]
 let r:=l.2.of [9,3]
 let w:=r.2.next 5
 let c:=w.2.one 6
 (⟨a.1,b.1,1+l.1,1+r.1,decide (0<w.1),c.1,1,1,0,0⟩,c.2)
def aF.more(n:Int)(l:List Road)(d:aF):Nat→List Road×aF
 | 0=>(l,d)
 | k+1=>if l.length<10 then aF.more n (if(d.si n).1.frm=(d.si n).1.to then l else l++[(d.si n).1]) (d.si n).2 k else(l,d)
def aF.xi(d:aF):Nat:=if d.L.length=0 then 4 else(2+(d.next 6).1).toNat
def aF.PH(d:aF):List Place×aF:=(d.next 6).2.gj d.xi
def aF.EK(d:aF):List Road×aF:=d.PH.2.mB (d.xi-1)
def aF.Td(d:aF):List Road×aF:=aF.more d.xi d.EK.1 (d.EK.2.next 4).2 (d.EK.2.next 4).1.toNat
def aF.VE(d:aF):aC×aF:=(⟨d.PH.1,d.Td.1⟩,d.Td.2)
theorem aF.mC{d:aF}(h:d.dY):∀n,(d.gj n).2.dY
 | 0=>h
 | n+1=>by
   unfold aF.gj
   split
   · exact aF.aY (aF.mC h n) 4
   · exact aF.B6 (aF.aY (aF.mC h n) 4) 6
theorem aF.sj(d:aF):∀n,(d.gj n).1.length=n
 | 0=>rfl
 | n+1=>by
   unfold aF.gj
   split<;>simp[d.sj n]
theorem aF.Jc{d:aF}(h:d.dY)(i:Int):(d.Mp i).2.dY:=aF.pM (aF.pM (aF.aY h _) _) _
theorem aF.pU{d:aF}(h:d.dY):∀n,(d.mB n).2.dY
 | 0=>h
 | n+1=>aF.Jc (aF.pU h n) _
theorem aF.vq(d:aF):∀n,(d.mB n).1.length=n
 | 0=>rfl
 | n+1=>by simp[aF.mB,d.vq n]
theorem aF.Cj{d:aF}(h:d.dY)(n:Int):(d.si n).2.dY:=by
 unfold aF.si;simp only
 exact aF.B6 (aF.aY (aF.pM (aF.pM (aF.aY (aF.aY h _) _) _) _) _) _
theorem aF.DV(n:Int):∀(k:Nat) (l:List Road) {d:aF},d.dY→(aF.more n l d k).2.dY
 | 0,l,d,h=>h
 | k+1,l,d,h=>by
   unfold aF.more
   split
   · exact aF.DV n k _ (aF.Cj h n)
   · exact h
theorem aF.Mq{d:aF}(h:d.dY):d.VE.2.dY:=
 aF.DV _ _ _ (aF.aY (aF.pU (aF.mC (aF.aY h _) _) _) _)
abbrev EL:List D:=[I 0,I 0,I 12,I 10,B true,B false,I 1,I 1,I 0,I 0]
theorem Mr(d:aF)(hd:d.dY)(n:Nat)(hn:n≤8)(a b c e f:D):
 exS aH K.qJ ⟨[.bp 0 0,.bp 1 0,.bp 2 0,I n,I 0,a,b,c,e,f],[d.obj,.box [.nil,.nil],.box [.ref 3 0 0,.ref 4 0 0],.arr 2 false 0 [],.arr 10 false 0 []]⟩=
 some (.exit 0,⟨[.bp 0 0,.bp 1 0,.bp 2 0,I n,I n,.und,.und,.und,.und,.und],[(d.gj n).2.obj,.box [.nil,.nil],.box [.ref 3 0 (d.gj n).1.length,.ref 4 0 0],.arr 2 false 0 (((d.gj n).1.map Place.e).map .t),.arr 10 false 0 []]⟩):=by
 refine bz (fun j=>⟨[.bp 0 0,.bp 1 0,.bp 2 0,I n,I j,.und,.und,.und,.und,.und],[(d.gj j).2.obj,.box [.nil,.nil],.box [.ref 3 0 (d.gj j).1.length,.ref 4 0 0],.arr 2 false 0 (((d.gj j).1.map Place.e).map .t),.arr 10 false 0 []]⟩) n rfl ?_ ?_ (by simp)
 · intro j hj
   have ln:=d.sj j
   have lt:=aF.mC hd j
   simp only[aF.gj]
   generalize d.gj j=s at*
   obtain⟨l,d1⟩:=s
   simp only at ln lt ⊢
   have h1:=iJ d1 4 (by omega) lt
   have b1:=d1.ff 4
   have b2:=d1.fg (n:=4) (by omega)
   have l1:=aF.aY lt 4
   generalize d1.next 4=a1 at*
   obtain⟨x,d2⟩:=a1
   simp only at h1 b1 b2 l1 ⊢
   by_cases j0:j=0
   · subst j0
     simp(disch:=omega)only[go_sem,K.jV,h1,↓reduceIte,reduceAdd,reduceSub]
   · have h2:=OW d2 6 (by omega) (by omega) l1
     simp(disch:=omega)only[go_sem,K.jV,h1,h2,j0,↓reduceIte,reduceAdd,reduceSub]
 · simp(disch:=omega)only[go_sem,K.jV,↓reduceIte]
theorem Ms(d:aF)(hd:d.dY)(n:Nat)(hn:n≤8)(h1:1≤n)(ps:List Place)(a b c e:D):
 exS aH K.qK ⟨[.bp 0 0,.bp 1 0,.bp 2 0,I n,a,.bp 5 0,I 1,b,c,e],[d.obj,.box [.nil,.nil],.box [.ref 3 0 ps.length,.ref 4 0 0],.arr 2 false 0 ((ps.map Place.e).map .t),.arr 10 false 0 [],.box EL]⟩=
 some (.exit 2,⟨[.bp 0 0,.bp 1 0,.bp 2 0,I n,.und,.bp 5 0,I n,.und,.und,.und],[(d.mB (n-1)).2.obj,.box [.nil,.nil],.box [.ref 3 0 ps.length,.ref 4 0 (d.mB (n-1)).1.length],.arr 2 false 0 ((ps.map Place.e).map .t),.arr 10 false 0 (((d.mB (n-1)).1.map Road.e).map .t),.box EL]⟩):=by
 refine bz (fun j=>⟨[.bp 0 0,.bp 1 0,.bp 2 0,I n,.und,.bp 5 0,I (j+1),.und,.und,.und],[(d.mB j).2.obj,.box [.nil,.nil],.box [.ref 3 0 ps.length,.ref 4 0 (d.mB j).1.length],.arr 2 false 0 ((ps.map Place.e).map .t),.arr 10 false 0 (((d.mB j).1.map Road.e).map .t),.box EL]⟩) (n-1) rfl ?_ ?_ (by simp)
 · intro j hj
   have ln:=d.vq j
   have lt:=aF.pU hd j
   simp only[aF.mB]
   generalize d.mB j=s at*
   obtain⟨l,d1⟩:=s
   simp only[aF.Mp]at ln lt ⊢
   have h1:=iJ d1 (min ((j:Int)+1) 2) (by omega) lt
   have b1:=d1.ff (min ((j:Int)+1) 2)
   have b2:=d1.fg (n:=min ((j:Int)+1) 2) (by omega)
   have l1:=aF.aY lt (min ((j:Int)+1) 2)
   generalize d1.next (min ((j:Int)+1) 2)=a1 at*
   obtain⟨x,d2⟩:=a1
   simp only at h1 b1 b2 l1 ⊢
   have h2:=OX d2 [11,59,119,4] (by simp) (by simp) l1
   have m2:=d2.yh (l:=[11,59,119,4]) (by simp)
   have l2:=aF.pM l1 [11,59,119,4]
   generalize d2.of [11,59,119,4]=a2 at*
   obtain⟨y,d3⟩:=a2
   simp only[tL,List.map_cons,List.map_nil]at h2 m2 l2 ⊢
   have h3:=OX d3 [9,3,19] (by simp) (by simp) l2
   have m3:=d3.yh (l:=[9,3,19]) (by simp)
   generalize d3.of [9,3,19]=a3 at*
   obtain⟨z,d4⟩:=a3
   simp only[tL,List.map_cons,List.map_nil,List.mem_cons,List.not_mem_nil,or_false]at h3 m2 m3 ⊢
   simp(disch:=omega)only[go_sem,K.mb,h1,h2,h3,↓reduceIte,reduceAdd,reduceSub]
 · simp(disch:=omega)only[go_sem,K.mb,↓reduceIte]
   rw[show((n-1:Nat):Int)+1=n by omega]
abbrev GU(d:aF)(ps:List Place)(l:List Road):aq:=[d.obj,.box [.nil,.nil],.box [.ref 3 0 ps.length,.ref 4 0 l.length],.arr 2 false 0 ((ps.map Place.e).map .t),.arr 10 false 0 ((l.map Road.e).map .t),.box EL]
theorem Mt(d:aF)(hd:d.dY)(n:Int)(hn:1≤n)(hn2:n≤8)(ps:List Place)(l:List Road)(hl:l.length<10)(k:Nat)(hk:k≤10):
 gp true [4,6,7,9] 6 (exS aH K.eJ ⟨[.bp 0 0,.bp 1 0,.bp 2 0,I n,.und,.bp 5 0,.und,.und,I (k+1),.und],GU d ps l⟩)=
 some ⟨[.bp 0 0,.bp 1 0,.bp 2 0,I n,.und,.bp 5 0,.und,.und,I k,.und],GU (d.si n).2 ps (if(d.si n).1.frm=(d.si n).1.to then l else l++[(d.si n).1])⟩:=by
 unfold aF.si GU
 simp only
 have h1:=iJ d n (by omega) hd
 have l1:=aF.aY hd n
 generalize d.next n=a1 at*
 obtain⟨x1,d1⟩:=a1
 simp only at h1 l1 ⊢
 have h2:=iJ d1 n (by omega) l1
 have l2:=aF.aY l1 n
 generalize d1.next n=a2 at*
 obtain⟨x2,d2⟩:=a2
 simp only at h2 l2 ⊢
 have h3:=OX d2 [11,59,199] (by simp) (by simp) l2
 have m3:=d2.yh (l:=[11,59,199]) (by simp)
 have l3:=aF.pM l2 [11,59,199]
 generalize d2.of [11,59,199]=a3 at*
 obtain⟨x3,d3⟩:=a3
 simp only[tL,List.map_cons,List.map_nil]at h3 m3 l3 ⊢
 have h4:=OX d3 [9,3] (by simp) (by simp) l3
 have m4:=d3.yh (l:=[9,3]) (by simp)
 have l4:=aF.pM l3 [9,3]
 generalize d3.of [9,3]=a4 at*
 obtain⟨x4,d4⟩:=a4
 simp only[tL,List.map_cons,List.map_nil]at h4 m4 l4 ⊢
 have h5:=iJ d4 5 (by omega) l4
 have l5:=aF.aY l4 5
 generalize d4.next 5=a5 at*
 obtain⟨x5,d5⟩:=a5
 simp only at h5 l5 ⊢
 have h6:=OW d5 6 (by omega) (by omega) l5
 generalize d5.one 6=a6 at*
 obtain⟨x6,d6⟩:=a6
 simp only[List.mem_cons,List.not_mem_nil,or_false]at h6 m3 m4 ⊢
 by_cases e:x1=x2
 · simp(disch:=omega)only[go_sem,K.eJ,h1,h2,h3,h4,h5,h6,e,↓reduceIte,reduceAdd,reduceSub]
 · simp(disch:=omega)only[go_sem,K.eJ,h1,h2,h3,h4,h5,h6,e,↓reduceIte,reduceAdd,reduceSub]
theorem DW(n:Int)(hn:1≤n)(hn2:n≤8)(ps:List Place):∀(k:Nat) (d:aF) (l:List Road),d.dY→l.length≤10→k≤10→
 ∃z:Int,nj true [4,6,7,9] (exS aH K.eJ) ⟨[.bp 0 0,.bp 1 0,.bp 2 0,I n,.und,.bp 5 0,.und,.und,I k,.und],GU d ps l⟩=
 some (.exit 4,⟨[.bp 0 0,.bp 1 0,.bp 2 0,I n,.und,.bp 5 0,.und,.und,I z,.und],GU (aF.more n l d k).2 ps (aF.more n l d k).1⟩)
 | 0,d,l,hd,hl,hk=>by
   refine⟨0,dW ?_ (by simp)⟩
   simp(disch:=omega)only[go_sem,K.eJ,aF.more,↓reduceIte,reduceAdd,reduceSub]
 | k+1,d,l,hd,hl,hk=>by
   by_cases h:l.length<10
   · have hr:=Mt d hd n hn hn2 ps l h k (by omega)
     obtain⟨z,hz⟩:=DW n hn hn2 ps k (d.si n).2 (if(d.si n).1.frm=(d.si n).1.to then l else l++[(d.si n).1]) (aF.Cj hd n) (by split<;>(try rw[aLv,List.length_singleton])<;>omega) (by omega)
     refine⟨z,fC hr ?_⟩
     rw[hz]
     simp only[aF.more,if_pos h]
   · refine⟨(k:Int)+1,dW ?_ (by simp)⟩
     simp(disch:=omega)only[go_sem,K.eJ,aF.more,↓reduceIte,reduceAdd,reduceSub]
theorem aF.KQ(n:Int):∀(k:Nat) (l:List Road) (d:aF),l.length≤10→(aF.more n l d k).1.length≤10
 | 0,l,d,h=>h
 | k+1,l,d,h=>by
   unfold aF.more
   split
   · exact aF.KQ n k _ _ (by split<;>(try rw[aLv,List.length_singleton])<;>omega)
   · exact h
theorem aF.Be(d:aF):2≤d.xi∧d.xi≤7:=by
 unfold aF.xi
 have:=d.ff 6
 have:=d.fg (n:=6) (by omega)
 split<;>omega
theorem YU(d:aF)(hd:d.dY):aH 0 N.du [.bp 0 0] [d.obj]=some (.t d.VE.1.e,[d.VE.2.obj]):=by
 refine av K.nG rfl ?_
 have nb:=d.Be
 unfold aF.VE
 have h0:=iJ d 6 (by omega) hd
 have l0:=aF.aY hd 6
 have b1:=d.ff 6
 have b2:=d.fg (n:=6) (by omega)
 have hL:=d.US 6
 have hN:(d.xi:Int)=if d.L.length=0 then 4 else 2+(d.next 6).1:=by unfold aF.xi;split<;>omega
 have e1:d.Td=aF.more d.xi d.EK.1 (d.EK.2.next 4).2 (d.EK.2.next 4).1.toNat:=rfl
 have e2:d.EK=d.PH.2.mB (d.xi-1):=rfl
 have e3:d.PH=(d.next 6).2.gj d.xi:=rfl
 generalize d.Td=X at*
 generalize d.EK=R at*
 generalize d.PH=P at*
 generalize d.xi=n at*
 generalize d.next 6=a at*
 obtain⟨x,d1⟩:=a
 simp only at h0 l0 b1 b2 hL hN e3 ⊢
 have q1:=Mr d1 l0 n (by omega)
 have lP:=aF.mC l0 n
 have nP:=d1.sj n
 rw[← e3]at q1 lP nP
 obtain⟨ps,d2⟩:=P
 simp only at q1 lP nP e2 ⊢
 have q2:=Ms d2 lP n (by omega) (by omega) ps
 have lR:=aF.pU lP (n-1)
 have nR:=d2.vq (n-1)
 rw[← e2]at q2 lR nR
 obtain⟨rs,d3⟩:=R
 simp only at q2 lR nR e1 ⊢
 have h4:=iJ d3 4 (by omega) lR
 have l4:=aF.aY lR 4
 have b3:=d3.ff 4
 have b4:=d3.fg (n:=4) (by omega)
 generalize d3.next 4=c at*
 obtain⟨y,d4⟩:=c
 simp only at h4 l4 b3 b4 e1 ⊢
 obtain⟨z,q3⟩:=DW n (by omega) (by omega) ps y.toNat d4 rs l4 (by omega) (by omega)
 rw[← e1]at q3
 have q3:=ue (vs:=[.bp 0 0,.bp 1 0,.bp 2 0,I n,.und,.bp 5 0,I n,.und,I y.toNat,.und]) q3
 have ey:(y.toNat:Int)=y:=by omega
 rw[ey]at q3
 obtain⟨xs,d5⟩:=X
 have fin:∀k:Int,(exS aH K.qL ⟨[.bp 0 0,.bp 1 0,.bp 2 0,I n,.und,.bp 5 0,I n,.und,I y,.und],GU d4 ps rs⟩)=
  some (.exit 4,⟨[.bp 0 0,.bp 1 0,.bp 2 0,I n,.und,.bp 5 0,.und,.und,I z,.und],GU d5 ps xs⟩):=fun _=>q3
 clear q3
 have q3:=fin 0
 clear fin
 simp only[GU]at q3
 by_cases c0:d.L.length=0
 · rw[if_pos c0]at hN
   obtain rfl:n=4:=by omega
   have e4:((4:Nat):Int)=4:=rfl
   simp only[e4]at q1 q2 q3
   simp(disch:=omega)only[go_sem,K.du,↓reduceIte,h0,c0,q1,q2,q3,h4,hL,reduceAdd,reduceSub]
 · rw[if_neg c0]at hN
   simp(disch:=omega)only[go_sem,K.du,↓reduceIte,h0,c0,q1,q2,q3,h4,hL,hN.symm,reduceAdd,reduceSub]
theorem aF.Te(d:aF){n:Nat}{i:Int}(h1:1≤i)(h2:i<n):(d.Mp i).1.ok n:=by
 have b1:=d.ff (min i 2)
 have b2:=d.fg (n:=min i 2) (by omega)
 have m2:=(d.next (min i 2)).2.yh (l:=[11,59,119,4]) (by simp)
 have m3:=((d.next (min i 2)).2.of [11,59,119,4]).2.yh (l:=[9,3,19]) (by simp)
 simp only[List.mem_cons,List.not_mem_nil,or_false]at m2 m3
 unfold aF.Mp
 constructor<;>(simp only;omega)
theorem aF.GV(d:aF){n:Nat}:∀k,k+1≤n→∀r∈(d.mB k).1,r.ok n
 | 0,_,r,hr=>by simp[aF.mB]at hr
 | k+1,h,r,hr=>by
   simp only[aF.mB,List.mem_append,List.mem_singleton]at hr
   rcases hr with hr | rfl
   · exact d.GV k (by omega) r hr
   · exact aF.Te _ (by omega) (by omega)
theorem aF.Tf(d:aF){n:Nat}(hn:1≤n)(hne:(d.si n).1.frm≠(d.si n).1.to):(d.si n).1.ok n:=by
 unfold aF.si at hne ⊢
 simp only at hne ⊢
 have b1:=d.ff n
 have b2:=d.fg (n:=(n:Int)) (by omega)
 generalize d.next n=a1 at*
 obtain⟨x1,d1⟩:=a1
 simp only at*
 have c1:=d1.ff n
 have c2:=d1.fg (n:=(n:Int)) (by omega)
 generalize d1.next n=a2 at*
 obtain⟨x2,d2⟩:=a2
 simp only at*
 have m3:=d2.yh (l:=[11,59,199]) (by simp)
 generalize d2.of [11,59,199]=a3 at*
 obtain⟨x3,d3⟩:=a3
 simp only at*
 have m4:=d3.yh (l:=[9,3]) (by simp)
 generalize d3.of [9,3]=a4 at*
 obtain⟨x4,d4⟩:=a4
 simp only[List.mem_cons,List.not_mem_nil,or_false]at m3 m4 ⊢
 constructor<;>(simp only;omega)
theorem aF.PI{n:Nat}(hn:1≤n):∀(k:Nat) (l:List Road) (d:aF),(∀r∈l,r.ok n)→∀r∈(aF.more n l d k).1,r.ok n
 | 0,l,d,h=>h
 | k+1,l,d,h=>by
   unfold aF.more
   split
   · refine aF.PI hn k _ _ ?_
     split
     · exact h
     · rename_i hne
       intro r hr
       rcases List.mem_append.1 hr with hr | hr
       · exact h r hr
       · rw[List.mem_singleton.1 hr];exact d.Tf hn hne
   · exact h
theorem aF.GW(n:Int):∀(k:Nat) (l:List Road) (d:aF),l.length≤(aF.more n l d k).1.length
 | 0,l,d=>aLs _
 | k+1,l,d=>by
   unfold aF.more
   split
   · refine Nat.le_trans ?_ (aF.GW n k _ _)
     split<;>(try rw[aLv])<;>omega
   · exact aLs _
theorem aF.GX(d:aF):∀k,∀p∈(d.gj k).1, -30≤p.h∧p.h≤0
 | 0,p,hp=>by simp[aF.gj]at hp
 | k+1,p,hp=>by
   have b1:=(d.gj k).2.ff 4
   have b2:=(d.gj k).2.fg (n:=4) (by omega)
   unfold aF.gj at hp
   split at hp
   all_goals
    simp only[List.mem_append,List.mem_singleton]at hp
    rcases hp with hp | rfl
    · exact d.GX k p hp
    · simp only;omega
theorem aF.Ck(d:aF):d.VE.1.aa.length=d.xi:=aF.sj _ _
theorem aF.DX(d:aF):d.xi-1≤d.VE.1.roads.length∧d.VE.1.roads.length≤10:=by
 have nb:=d.Be
 have e:d.EK.1.length=d.xi-1:=aF.vq _ _
 constructor
 · rw[← e];exact aF.GW _ _ _ _
 · exact aF.KQ _ _ _ _ (by omega)
theorem aF.PJ(d:aF):d.VE.1.ok:=by
 have nb:=d.Be
 have h1:=d.Ck
 have h2:=d.DX
 refine⟨by omega,by omega,fun p hp=>?_,?_⟩
 · have:=aF.GX _ _ p hp;omega
 · rw[h1]
   exact aF.PI (by omega) _ _ _ (aF.GV _ _ (by omega))
def aF.aer(d:aF):Spn×aF:=
 let a:=d.of [0,1000,5000,20000, -5000, -20000,4999,100]
 let b:=a.2.of [0,1,1000,6000]
 let c:=b.2.of [0,1,500]
 let w:=c.2.one 9
 (if w.1=true then⟨-1125899906842624,1125899906842624⟩else⟨a.1-b.1,a.1+c.1⟩,w.2)
def aF.KR(d:aF):Nat→List Spn×aF
 | 0=>([],d)
 | k+1=>((d.KR k).1++[((d.KR k).2.aer).1],((d.KR k).2.aer).2)
def aF.ai6(d:aF)(m:aC):List Spn×aF:=d.KR m.roads.length
theorem VF{gc:Bool}{dead:List Nat}{c:C}{vs:List D}{H:aq}(P:Nat→St→Prop)(n:Nat)(Q:Ex×St→Prop)(h0:P 0 ⟨lV dead vs,H⟩)
 (hs:∀j st,j<n→P j st→(∃st',gp gc dead st.H.length (exS aH c st)=some st'∧P (j+1) st')∨∃q,exS aH c st=some q∧q.1≠ .normal∧Q q)
 (he:∀st,P n st→∃q,exS aH c st=some q∧q.1≠ .normal∧Q q):∃q,exS aH (.loop gc dead c) ⟨vs,H⟩=some q∧Q q:=by
 have key:∀(k j:Nat) (st:St),j+k=n→P j st→∃q,nj gc dead (exS aH c) st=some q∧Q q:=by
  intro k
  induction k with
  | zero=>
    intro j st hj hp
    obtain⟨q,h1,h2,h3⟩:=he st (by rw[← hj];exact hp)
    exact⟨q,dW h1 h2,h3⟩
  | succ k ih=>
    intro j st hj hp
    rcases hs j st (by omega) hp with⟨st',h1,h2⟩ | ⟨q,h1,h2,h3⟩
    · obtain⟨q,h3,h4⟩:=ih (j+1) st' (by omega) h2
      exact⟨q,fC h1 h3,h4⟩
    · exact⟨q,dW h1 h2,h3⟩
 exact key n 0 _ (by omega) h0
theorem aet(l:List Int):aH 0 N.kO [.t (tL l)] []=some (.bp 0 0,[aF.obj ⟨l,0⟩]):=by
 refine av K.wW rfl ?_
 simp(disch:=omega)only[go_sem,K.kO,↓reduceIte,aF.obj,reduceAdd,reduceSub]
theorem PL{d:aF}(hd:d.dY)(n:Int)(h1:1≤n)(hn:n≤4611686018427387904):
 ∃(v:Int) (e:aF),aH 0 N.aB [.bp 0 0,I n] [d.obj]=some (I v,[e.obj])∧e.dY∧0≤v∧v<n:=
 ⟨_,_,iJ d n hn hd,aF.aY hd n,d.ff n,d.fg h1⟩
theorem ai7{d:aF}(hd:d.dY)(n:Int)(h1:0≤n)(hn:n≤4611686018427387904):
 ∃(b:Bool) (e:aF),aH 0 N.cB [.bp 0 0,I n] [d.obj]=some (B b,[e.obj])∧e.dY:=
 ⟨_,_,OW d n h1 hn hd,aF.B6 hd n⟩
theorem aj9{d:aF}(hd:d.dY)(l:List Int)(hl:l≠[])(hn:l.length≤4294967296):
 ∃(v:Int) (e:aF),aH 0 N.cK [.bp 0 0,.t (tL l)] [d.obj]=some (I v,[e.obj])∧e.dY∧v∈l:=
 ⟨_,_,OX d l hl hn hd,aF.pM hd l,d.yh hl⟩
theorem aeu{d:aF}(hd:d.dY):
 ∃(m:aC) (e:aF),aH 0 N.du [.bp 0 0] [d.obj]=some (.t m.e,[e.obj])∧e.dY∧m.ok∧2≤m.aa.length∧m.aa.length≤7∧1≤m.roads.length∧m.roads.length≤10:=by
 have b:=d.Be
 have p:=d.Ck
 have r:=d.DX
 exact⟨_,_,YU d hd,aF.Mq hd,d.PJ,by omega,by omega,by omega,by omega⟩
end Go.Ev
namespace Go.Ev
open Go
variable [Lib] [bX] [bJ] [fR] [fS]
abbrev never:Int:=1099511627776
abbrev Wh.box(w:Wh):Obj:= .box [I w.time,.t (tL w.frm)]
abbrev tX(xs:List World):T:= .sl (xs.map World.e)
structure Req where
 x:S7
 s:agM
 k:Keys
 b:Bel
 t:Int
 from_:Int
abbrev Req.e(r:Req):T:= .agg [tL r.x.area,tI r.x.hold,tI r.x.mis,tI r.s.st,tI r.s.fi,tI r.s.se,tI r.s.ti,tL r.k.roads,tL r.k.keys,.bool r.k.out,.sl (r.b.ao.map World.e),tI r.t,tI r.from_]
structure Req.sz(r:Req):Prop where
 hx:r.x.area.length≤1000000
 hk:r.k.roads.length≤1000000
 hk2:r.k.keys.length≤1000000
 hb:r.b.sz
section
variable (x : S7) (s : agM) (k : Keys) (b : Bel) (hx : x.area.length ≤ 1000000) (hk : k.roads.length ≤ 1000000) (hk2 : k.keys.length ≤ 1000000) (hb : b.sz)
include hx hk hk2 hb
end
end Go.Ev
namespace Go.Ev
open Go
variable [Lib] [bX] [bJ] [fR] [fS]
section
variable (area : List Int) (ha : area.length ≤ 1000000) (xs : List World) (hx : xs.length ≤ 1000000)
include ha hx
end
end Go.Ev
namespace Go.Ev.K
open Go.Ev
end Go.Ev.K
namespace Go.Ev
class iK [Lib]:Prop where
namespace K
variable [Lib] [iK]
end K
end Go.Ev
namespace Go.Ev.K
open Go.Ev
def bN:Fn:= { aP:=1,vars:=[],body:= .fail,res:=[],prim:=[1]}
end Go.Ev.K
namespace Go.Ev
class cV [Lib]:Prop where
 j9:Lib.fs N.bN=some K.bN
namespace K
variable [Lib] [cV]
theorem j9:Lib.fs N.bN=some K.bN:=cV.j9
end K
end Go.Ev
namespace Go.Ev
open Go
variable [Lib] [bX] [bJ] [fR] [fS] [iK] [fy] [fo] [gU] [fM] [cV]
end Go.Ev
namespace Go.Ev
open Go
theorem Jd{d:D}{n:Int}(h:Dr d=some n):d= .t (.int .i64 n):=by
 unfold Dr at h
 split at h
 · cases h;rfl
 · cases h
theorem PN:∀ {es:List D} {l:List Int},cg Dr es=some l→es=l.map fun x=> .t (.int .i64 x)
 | [],l,h=>by simp[cg]at h;subst h;rfl
 | e::r,l,h=>by
   simp only[cg,aLa,aLb]at h
   obtain⟨x,hx,y,hy,rfl⟩:=h
   rw[Jd hx,PN hy];rfl
theorem Cl(x:Int):∀l,(V1 x l).Perm (x::l)
 | []=> .refl _
 | y::r=>by
   unfold V1
   split
   · exact .refl _
   · exact((Cl x r).cons y).trans (.swap x y r)
theorem kq:∀l,(iS l).Perm l
 | []=> .refl _
 | x::r=>(Cl x _).trans ((kq r).cons x)
theorem PO{x:Int}:∀ {l:List Int},l.Pairwise (· ≤ ·)→(V1 x l).Pairwise (· ≤ ·)
 | [],_=>by simp[V1]
 | y::r,h=>by
   unfold V1
   split
   · rename_i hx
     refine List.pairwise_cons.2 ⟨fun z hz=>?_,h⟩
     rcases List.mem_cons.1 hz with rfl | hz
     · exact hx
     · have:=(List.pairwise_cons.1 h).1 z hz;omega
   · rename_i hx
     have h':=List.pairwise_cons.1 h
     refine List.pairwise_cons.2 ⟨fun z hz=>?_,PO h'.2⟩
     have hz:=(Cl x r).mem_iff.1 hz
     rcases List.mem_cons.1 hz with rfl | hz
     · omega
     · exact h'.1 z hz
theorem vu:∀l,(iS l).Pairwise (· ≤ ·)
 | []=> .nil
 | x::r=>PO (vu r)
theorem ka(l:List Int):(iS l).length=l.length:=(kq l).length_eq
theorem KS(l:List Int):(l.mergeSort fun x y=>decide (x≤y))=iS l:=by
 refine List.Perm.eq_of_pairwise (le:=(· ≤ ·)) (fun a b _ _ h1 h2=>by omega) ?_ (vu l) ((List.mergeSort_perm _ _).trans (kq l).symm)
 have:=List.pairwise_mergeSort (le:=fun x y:Int=>decide (x≤y)) (fun a b c=>by simp;omega) (fun a b=>by simp;omega) l
 exact this.imp (by simp)
end Go.Ev
namespace Go.Ev
open Go
variable [Lib] [bX] [bJ] [fR] [fS] [iK] [fy] [fo] [gU] [fM] [cV]
section
variable (k : Keys) (hl : k.keys.length ≤ 1000000) (hr : k.roads.length ≤ 1000000)
include hl hr
end
end Go.Ev
namespace Go.Ev
open Go
variable [Lib] [bX] [bJ] [fR] [fS] [iK] [fy] [fo] [gU] [fM] [cV]
theorem GY:∀l:List Int,cg Dr ((l.map (T.int .i64)).map .t)=some l
 | []=>rfl
 | x::r=>by simp only[List.map_cons,cg,Dr,aLq,GY r,aLw]
theorem YV(raw:Nat)(l:List Int)(hl:l.length≤4294967296):aH raw N.bN [.ref 0 0 l.length] [pT l]=some (.tup [],[pT (iS l)]):=by
 refine B5 K.j9 (by simp[K.bN]) ?_
 have m:=GY l
 simp only[K.bN,AJ,pT,List.getElem?_cons_zero,List.length_map,lim,hl,and_self,↓reduceIte,m,aLw,List.set_cons_zero]
 rw[List.map_map]
 rfl
theorem ai8{a b:List Int}(ha:a.Pairwise (· ≤ ·))(hb:b.Pairwise (· ≤ ·))(p:a.Perm b):a=b:=
 List.Perm.eq_of_pairwise (le:=(· ≤ ·)) (fun a b _ _ h1 h2=>by omega) ha hb p
section
variable (b u v y : Obj) (ds : aq)
end
end Go.Ev
namespace Go.Ev.K
open Go.Ev
def b7:C:= (.its [u (.bin .lss v10 v9)] [] 0 .skip (.exit 0) (.seq (.blk 1 (q [m v10,a 2 v8 v10,h 2 l0,w 7 (.al [.nil,.nil] []),x 6 l3,u (.st l1 l2 2 [])] [] (.blk 2 (.ite [f 0 v7,g l0,u (.ln l0),u (.ca N.eI 0 [] [.l 0,.i 1,.i 12]),u (.un .not l0),m l0,y 0 false (.fa v7 1),i 1 false l0,y 2 false (.ln l0),y 3 false (.fa v7 0),i 4 false l0,y 5 false (.ln l0),y 6 false (.bin .neq l3 l0),u (.pk l7 (.b true) l0),m l0,y 0 false (.fa v7 0),i 1 false l0,y 2 false (.ca N.gM 0 [] [.l 0]),y 3 false (.un .not l0),u (.pk l4 (.b true) l0),m l0] [] 0 (q [x 4 (.b false)] [] .ret) (.ite [f 0 v7,g l0,u (.ca N.bk 0 [] [.l 0]),u (.ca N.cF 0 [] [.l 0]),m v5,u (.ca N.bg 0 [] [.l 1,.l 0]),u (.un .not l0),m l0] [] 0 (q [x 4 (.b false)] [] .ret) (.ite [m v6,u (.bin .gtr l0 (.i 0)),m l0,y 0 true (.fa v3 0),i 1 true l0,e 2 true v6,y 3 true (.bin .sub l0 (.i 1)),y 4 true (.ia l2 l0 2),y 5 true (.fa l0 0),i 6 true l0,y 7 true (.fa v7 0),i 8 true l0,y 9 true (.ca N.aZ 0 [] [.l 2,.l 0]),y 10 true (.bin .geq l0 (.i 0)),u (.pk l11 l0 (.b false)),m l0] [] 0 (q [x 4 (.b false)] [] .ret) (.ite [f 1 v7,g l0,u (.mf N.dP [.v 2]),u (.ca N.au 0 [] [.l 1,.l 0]),m l0] [] 0 (q [x 4 (.b false)] [] .ret) .skip))))))) (.reg [u (.bin .add v10 (.i 1)),x 10 l0] [])))
def qm:C:= .loop true [0,1,4,6,7] K.b7
def gF:Fn:= { aP:=2,vars:=[0,1,2,3,4,5,6,7,26,27,28],body:=(q [w 2 (.bx v0 2),w 3 (.bx v1 1),x 4 (.b false)] [] (.seq (.ite [h 2 v2,u (.ca N.ec 0 [] [.l 0]),u (.un .not l0),m l0,y 0 false (.fa v3 0),i 1 false l0,y 2 false (.ln l0),y 3 false (.ca N.eI 0 [] [.l 0,.i 1,.i 24]),y 4 false (.un .not l0),u (.pk l5 (.b true) l0)] [] 0 (q [x 4 (.b false)] [] .ret) .skip) (q [f 0 v3,g l0,a 2 l0 (.i 0),f 0 l0,g l0,u (.ca N.bk 0 [] [.l 0]),u (.ca N.cF 0 [] [.l 0]),x 5 l0] [] (.seq (q [f 0 v3,w 8 (.ld l0 1 false),w 9 (.ln l0),x 10 (.i 0)] [] (.blk 0 K.qm)) (q [x 4 (.b true)] [] .ret))))),res:=[(4,none)]}
def cF:Fn:= { aP:=1,vars:=[2],body:= .fail,res:=[(0,none)],prim:=[2,N.aR]}
def bk:Fn:= { aP:=1,vars:=[0,1,2],body:=(q [w 1 (.bx v0 1),w 2 (.mv (.c (.und)))] [] (q [u (.mf N.aR [.v 1]),x 2 l0] [] .ret)),res:=[(2,none)]}
def gM:Fn:= { aP:=1,vars:=[0,2,3],body:=(q [x 1 (.b false)] [] (q [m v0,u (.ca N.bk 0 [] [.l 0]),u (.ca N.cF 0 [] [.l 0]),x 2 l0] [] (q [m v2,u (.ca N.dm 0 [] [.l 0,.i 1,.i 65535]),x 1 l0] [] .ret))),res:=[(1,none)]}
def dG:C:= (.its [u (.bin .lss v9 v8)] [] 0 .skip (.exit 0) (.seq (.blk 1 (q [m v9,a 1 v7 v9,g l0,x 3 l2,x 4 l1] [] (.seq (.ite [m v3,m v1,u (.ln l0),u (.bin .geq l2 l0)] [] 0 (q [x 2 (.i 1)] [] .ret) .skip) (q [m v1,m v3,a 1 l1 l0,g l0,x 5 l0] [] (q [m v4,m v5,u (.ca N.cR 0 [] [.l 1,.l 0]),x 6 l0] [] (.ite [m v6,u (.bin .neq l0 (.i 0))] [] 0 (q [m v6,x 2 l0] [] .ret) .skip)))))) (.reg [u (.bin .add v9 (.i 1)),x 9 l0] [])))
def kU:C:= .loop true [2,3,4,5,6] K.dG
def aZ:Fn:= { aP:=2,vars:=[0,1,4,5,6,7,8,9,10,11],body:=(q [x 2 (.i 0)] [] (.seq (q [x 7 v0,w 8 (.ln l0),x 9 (.i 0)] [] (.blk 0 K.kU)) (.seq (.ite [m v0,u (.ln l0),m v1,u (.ln l0),u (.bin .lss l2 l0)] [] 0 (q [w 2 (.mv (.i (-1)))] [] .ret) .skip) (q [x 2 (.i 0)] [] .ret)))),res:=[(2,none)]}
def au:Fn:= { aP:=2,vars:=[0,1,4],body:=(q [x 2 (.b false)] [] (q [m v0,m v1,u (.ca N.az 0 [] [.l 1,.l 0]),u (.bin .geq l0 (.i 0)),x 2 l0] [] .ret)),res:=[(2,none)]}
def dP:Fn:= { aP:=2,vars:=[0,1,2,3],body:=(q [w 2 (.bx v0 2),x 3 (.b false)] [] (q [h 2 v1,h 2 v2,u (.ca N.gg 0 [] [.l 1,.l 0]),u (.un .not l0),x 3 l0] [] .ret)),res:=[(3,none)]}
def o8:C:= (.its [u (.bin .lss v5 v4)] [] 0 .skip (.exit 0) (.seq (.blk 1 (q [a 1 v3 v5,g l0,x 2 l0] [] (.ite [m v0,m v2,u (.cw l1 0 [] [.l 0]),u (.un .not l0)] [] 0 .ret .skip))) (.reg [u (.bin .add v5 (.i 1)),x 5 l0] [])))
def pF:C:= .loop true [1,2] K.o8
def aR:Fn:= { aP:=2,vars:=[0,1,4,5,6,7],body:=(q [w 3 (.ld v1 1 false),w 4 (.ln l0),x 5 (.i 0)] [] (.blk 0 K.pF)),res:=[]}
def cR:Fn:= { aP:=2,vars:=[0,1,4,5,6],body:=(q [x 2 (.i 0)] [] (q [m v0,u (.ca N.cmp_isNaN_int 0 [] [.l 0]),x 3 l0] [] (q [m v1,u (.ca N.cmp_isNaN_int 0 [] [.l 0]),x 4 l0] [] (.seq (.ite [m v3] [] 0 (.seq (.ite [m v4] [] 0 (q [x 2 (.i 0)] [] .ret) .skip) (q [w 2 (.mv (.i (-1)))] [] .ret)) .skip) (.seq (.ite [m v4] [] 0 (q [x 2 (.i 1)] [] .ret) .skip) (.seq (.ite [m v0,m v1,u (.bin .lss l1 l0)] [] 0 (q [w 2 (.mv (.i (-1)))] [] .ret) .skip) (.seq (.ite [m v0,m v1,u (.bin .gtr l1 l0)] [] 0 (q [x 2 (.i 1)] [] .ret) .skip) (q [x 2 (.i 0)] [] .ret)))))))),res:=[(2,none)]}
def bf:C:= (.its [u (.bin .lss v5 v4)] [] 0 .skip (.exit 0) (.seq (.blk 1 (q [m v5,x 3 l0] [] (.ite [m v1,m v0,m v3,a 2 l1 l0,h 2 l0,u (.cw l4 0 [] [.l 0])] [] 0 (q [m v3,x 2 l0] [] .ret) .skip))) (.reg [u (.bin .add v5 (.i 1)),x 5 l0] [])))
def dn:C:= .loop true [2,3] K.bf
def az:Fn:= { aP:=2,vars:=[0,1,4,5,7,8],body:=(q [x 2 (.i 0)] [] (.seq (q [m v0,w 4 (.ln l0),x 5 (.i 0)] [] (.blk 0 K.dn)) (q [w 2 (.mv (.i (-1)))] [] .ret))),res:=[(2,none)]}
def cmp_isNaN_int:Fn:= { aP:=1,vars:=[0,2],body:=(q [x 1 (.b false)] [] (q [m v0,m v0,u (.bin .neq l1 l0),x 1 l0] [] .ret)),res:=[(1,none)]}
end Go.Ev.K
namespace Go.Ev
class cI [Lib]:Prop where
 sk:Lib.fs N.gF=some K.gF
 lD:Lib.fs N.cF=some K.cF
 ju:Lib.fs N.bk=some K.bk
 qn:Lib.fs N.gM=some K.gM
 jc:Lib.fs N.aZ=some K.aZ
 bI:Lib.fs N.au=some K.au
 o9:Lib.fs N.dP=some K.dP
 kV:Lib.fs N.aR=some K.aR
 m6:Lib.fs N.cR=some K.cR
 bS:Lib.fs N.az=some K.az
 pc:Lib.fs N.cmp_isNaN_int=some K.cmp_isNaN_int
namespace K
variable [Lib] [cI]
theorem sk:Lib.fs N.gF=some K.gF:=cI.sk
theorem lD:Lib.fs N.cF=some K.cF:=cI.lD
theorem ju:Lib.fs N.bk=some K.bk:=cI.ju
theorem qn:Lib.fs N.gM=some K.gM:=cI.qn
theorem jc:Lib.fs N.aZ=some K.aZ:=cI.jc
theorem bI:Lib.fs N.au=some K.au:=cI.bI
theorem o9:Lib.fs N.dP=some K.dP:=cI.o9
theorem kV:Lib.fs N.aR=some K.aR:=cI.kV
theorem m6:Lib.fs N.cR=some K.cR:=cI.m6
theorem bS:Lib.fs N.az=some K.az:=cI.bS
theorem pc:Lib.fs N.cmp_isNaN_int=some K.cmp_isNaN_int:=cI.pc
end K
end Go.Ev
namespace Go.Ev
open Go
variable [Lib] [bX] [bJ] [fR] [fS] [iK] [fy] [fo] [gU] [fM] [cV] [cI]
theorem Cm(l:List Int):aH 0 N.bk [.t (tL l)] []=some (.fn N.aR [.bp 0 0],[.box [.t (tL l)]]):=by
 refine av K.ju rfl ?_
 simp(disch:=omega)only[go_sem,K.bk,↓reduceIte,reduceAdd,reduceSub]
theorem Mu(l:List Int):Br (tL l)=some l:=by
 unfold Br
 simp only
 induction l with
 | nil=>rfl
 | cons x l ih=>
   simp only[List.map_cons,cg]at ih ⊢
   rw[ih];rfl
theorem Cn(l:List Int)(hl:l.length≤1000000):aH 0 N.cF [.fn N.aR [.bp 0 0]] [.box [.t (tL l)]]=some (.t (tL (iS l)),[.box [.t (tL l)]]):=by
 refine B5 K.lD (by decide) ?_
 show AJ [2,N.aR] _ _=_
 simp only[AJ,if_true,List.getElem?_cons_zero,xG,aLq,Mu]
 rw[if_pos (by unfold lim;omega)]
theorem KT(a:Int):aH 0 N.cmp_isNaN_int [I a] []=some (B false,[]):=by
 refine av K.pc rfl ?_
 simp(disch:=omega)only[go_sem,K.cmp_isNaN_int,↓reduceIte,decide_true,Bool.not_true,reduceAdd,reduceSub]
def PQ(a b:Int):Int:=if a<b then -1 else if b<a then 1 else 0
theorem VG(a b:Int):aH 0 N.cR [I a,I b] []=some (I (PQ a b),[]):=by
 refine av K.m6 rfl ?_
 have h1:=KT a
 have h2:=KT b
 unfold PQ
 by_cases c1:a<b
 · simp(disch:=omega)only[go_sem,K.cR,↓reduceIte,h1,h2,c1,aLt,reduceAdd,reduceSub]
 · by_cases c2:b<a
   · simp(disch:=omega)only[go_sem,K.cR,↓reduceIte,h1,h2,c1,c2,aLt,reduceAdd,reduceSub]
   · simp(disch:=omega)only[go_sem,K.cR,↓reduceIte,h1,h2,c1,c2,aLt,reduceAdd,reduceSub]
def KU(a b:List Int)(j:Nat):Bool:=decide (b.length≤j)||decide (nth a j≠nth b j)
def abK(a b:List Int):Int:=match (List.range a.length).find? (KU a b)with
 | some j=>if b.length≤j then 1 else PQ (nth a j) (nth b j)
 | none=>if a.length<b.length then -1 else 0
theorem Mv(a b:List Int)(ha:a.length≤1000000)(hb:b.length≤1000000):aH 0 N.aZ [.t (tL a),.t (tL b)] []=some (I (abK a b),[]):=by
 refine av K.jc rfl ?_
 have loop:∀z2 z3 z4 z5 z6:D,exS aH K.kU ⟨[.t (tL a),.t (tL b),z2,z3,z4,z5,z6,.t (tL a),I a.length,I 0],[]⟩=
  some (match (List.range a.length).find? (KU a b)with
   | some j=>(.ret,⟨[.t (tL a),.t (tL b),I (if b.length≤j then 1 else PQ (nth a j) (nth b j)),I j,I (nth a j),if b.length≤j then .und else I (nth b j),if b.length≤j then .und else I (PQ (nth a j) (nth b j)),.t (tL a),I a.length,I j],[]⟩)
   | none=>(.exit 0,⟨[.t (tL a),.t (tL b),.und,.und,.und,.und,.und,.t (tL a),I a.length,I a.length],[]⟩)):=by
  intro z2 z3 z4 z5 z6
  refine cq (fun j=>⟨[.t (tL a),.t (tL b),.und,.und,.und,.und,.und,.t (tL a),I a.length,I j],[]⟩) a.length (KU a b) _ _ rfl ?_ ?_ ?_ (by simp)
  · intro j hj hp
    simp only[KU,Bool.or_eq_false_iff,decide_eq_false_iff_not,Decidable.not_not]at hp
    obtain⟨h1,h2⟩:=hp
    have c:=VG (nth a j) (nth b j)
    rw[h2]at c
    have e:PQ (nth b j) (nth b j)=0:=by unfold PQ;rw[if_neg (by omega),if_neg (by omega)]
    rw[e]at c
    simp(disch:=omega)only[go_sem,K.dG,↓reduceIte,h2,c,reduceAdd,reduceSub]
  · intro j hj hp
    refine⟨?_,by simp⟩
    by_cases h1:b.length≤j
    · rw[if_pos h1,if_pos h1,if_pos h1]
      simp(disch:=omega)only[go_sem,K.dG,↓reduceIte,reduceAdd,reduceSub]
    · rw[if_neg h1,if_neg h1,if_neg h1]
      have h2:nth a j≠nth b j:=by simpa [KU,h1]using hp
      have c:=VG (nth a j) (nth b j)
      have e:PQ (nth a j) (nth b j)≠0:=by
       unfold PQ;split
       · omega
       · split<;>omega
      generalize PQ (nth a j) (nth b j)=v at*
      simp(disch:=omega)only[go_sem,K.dG,↓reduceIte,c,e,reduceAdd,reduceSub]
  · simp(disch:=omega)only[go_sem,K.dG,↓reduceIte,reduceAdd,reduceSub]
 unfold abK
 cases hf:(List.range a.length).find? (KU a b)with
 | some j=>
   simp only[hf]at loop
   simp(disch:=omega)only[go_sem,K.aZ,↓reduceIte,loop,reduceAdd,reduceSub]
 | none=>
   simp only[hf]at loop
   by_cases h:a.length<b.length
   · simp(disch:=omega)only[go_sem,K.aZ,↓reduceIte,loop,h,reduceAdd,reduceSub]
   · simp(disch:=omega)only[go_sem,K.aZ,↓reduceIte,loop,h,reduceAdd,reduceSub]
end Go.Ev
namespace Go.Ev
open Go
variable [Lib] [bX] [bJ]
theorem sn:∀ {l l':List Int},l.Nodup→(∀x∈l,x∈l')→l.length≤l'.length
 | [],_,_,_=>by simp
 | a::l,l',hn,hs=>by
   obtain⟨h1,h2⟩:=List.nodup_cons.1 hn
   have ha:a∈l':=hs a List.mem_cons_self
   have:=sn (l:=l) (l':=l'.erase a) h2 fun x hx=>by
    have hne:x≠a:=fun e=>h1 (e▸hx)
    exact(List.mem_erase_of_ne hne).2 (hs x (List.mem_cons_of_mem _ hx))
   have h3:=List.length_erase_of_mem ha
   have h4:0<l'.length:=List.length_pos_of_mem ha
   simp only[List.length_cons]
   omega
theorem m7{l:List Int}{x:Int}:0≤cE l x↔x∈l:=by
 unfold cE
 cases hf:(List.range l.length).find? (fun j=>decide (nth l j=x))with
 | some j=>
   obtain⟨h1,h2⟩:=B7 hf
   have:=ai h1
   rw[of_decide_eq_true h2]at this
   simp[this]
 | none=>
   have:=List.find?_eq_none.1 hf
   simp only[Int.reduceNeg]
   constructor
   · intro h;simp at h
   · intro h
     obtain⟨j,hj⟩:=aLf.1 h
     have hl:=(aLe.1 hj).1
     have:=this j (aLu.2 hl)
     rw[bD hj]at this
     simp at this
theorem kr{l:List Int}(h:iu l=true):l.Nodup:=by
 simp only[iu,aLx,aLu,o6,decide_eq_true_eq]at h
 refine List.pairwise_iff_getElem.2 fun i j hi hj hij e=>?_
 obtain⟨-, -,h3⟩:=h j hj
 have h4:¬nth l j∈l.take j:=fun hm=>by have:=m7.2 hm;omega
 apply h4
 apply aLf.2
 refine⟨i,?_⟩
 rw[List.getElem?_take_of_lt hij,aLc hi,e,←aLc hj,c7 hj]
theorem gH{m:aC}{b:Bel}(h:qV m b=true):1≤b.ao.length∧b.ao.length≤24∧1≤(nth b.ao 0).tags.length∧(nth b.ao 0).tags.length≤12∧
 ∀i,i<b.ao.length→qU m b.ao (nth b.ao 0).tags i=true:=by
 simp only[qV,aLr,decide_eq_true_eq,aLx,aLu]at h
 exact⟨h.1.1.1,h.1.1.2,h.1.2.1,h.1.2.2,h.2⟩
theorem kc{m:aC}{ws:List World}{first:List Int}{i:Nat}(h:qU m ws first i=true):(nth ws i).tags.length=first.length∧(nth ws i).whr.length=first.length∧iu (nth ws i).tags=true∧
 ∀k,k<(nth ws i).tags.length→nth (nth ws i).tags k∈first∧dF m (nth (nth ws i).whr k)=true:=by
 simp only[qU,aLr,decide_eq_true_eq,aLx,aLu,ND]at h
 exact⟨h.1.1.1.1,h.1.1.1.2,h.1.1.2,fun k hk=>⟨m7.1 (h.2 k hk).1,(h.2 k hk).2⟩⟩
theorem Co{m:aC}{b:Bel}(h:qV m b=true){tag:Int}(ht:0≤cE (nth b.ao 0).tags tag){i:Nat}(hi:i<b.ao.length):
 0≤cE (nth b.ao i).tags tag:=by
 obtain⟨h1,h2,h3,h4,h5⟩:=gH h
 obtain⟨w1,w2,w3,w4⟩:=kc (h5 i hi)
 apply m7.2
 apply Classical.byContradiction
 intro hn
 have:=sn (l:=tag::(nth b.ao i).tags) (l':=(nth b.ao 0).tags) (List.nodup_cons.2 ⟨hn,kr w3⟩) (by
  intro x hx
  rcases List.mem_cons.1 hx with e | hx
  · rw[e];exact m7.1 ht
  · obtain⟨j,hj⟩:=aLf.1 hx
    have:=(w4 j (aLe.1 hj).1).1
    rwa [bD hj]at this)
 simp only[List.length_cons]at this
 omega
def pf(m:aC)(b:Bel)(tag:Int):Int:=if qV m b=false then 6 else if cE (nth b.ao 0).tags tag<0 then 41 else 0
theorem KV{m:aC}(h:m.ok)(b:Bel)(hs:b.sz)(tag:Int):aH 0 N.fF [.t m.e,.t b.e,I tag] []=some (I (pf m b tag),[]):=by
 refine av K.rN rfl ?_
 have v:=Pv h b hs
 unfold pf
 cases hv:qV m b with
 | false=>
   rw[hv]at v
   obtain⟨ws⟩:=b
   simp(disch:=omega)only[go_sem,K.fF,↓reduceIte,v]
 | true=>
   rw[hv]at v
   obtain⟨h1,h2,h3,h4,h5⟩:=gH hv
   have br:=o5 (nth b.ao 0).tags tag (by omega)
   obtain⟨ws⟩:=b
   simp only at h1 br ⊢
   by_cases c:cE (nth ws 0).tags tag<0
   · simp(disch:=omega)only[go_sem,K.fF,↓reduceIte,v,br,c,Bool.true_eq_false]
   · simp(disch:=omega)only[go_sem,K.fF,↓reduceIte,v,br,c,Bool.true_eq_false]
def Tg(a b:Wh)(t:Int):Bool:=(List.range (min a.frm.length b.frm.length)).any fun p=>decide (nth a.frm p≤t∧nth b.frm p≤t)
theorem YW(a b:Wh)(t:Int)(ha:a.frm.length≤1000000):aH 0 N.jE [.t a.e,.t b.e,I t] []=some (B (Tg a b t),[]):=by
 refine av K.tU rfl ?_
 obtain⟨t1,l1⟩:=a
 obtain⟨t2,l2⟩:=b
 unfold Tg
 simp only at ha ⊢
 have loop:∀x y z:D,exS aH K.yc ⟨[x,y,I t,.bp 0 0,.bp 1 0,z,I 0],[.box [I t1,.t (tL l1)],.box [I t2,.t (tL l2)]]⟩=
  some (match (List.range (min l1.length l2.length)).find? (fun p=>decide (nth l1 p≤t∧nth l2 p≤t))with
   | some j=>(.ret,⟨[.und,.und,I t,.bp 0 0,.bp 1 0,B true,I j],[.box [I t1,.t (tL l1)],.box [I t2,.t (tL l2)]]⟩)
   | none=>(.exit 0,⟨[.und,.und,I t,.bp 0 0,.bp 1 0,.und,I (min l1.length l2.length:Nat)],[.box [I t1,.t (tL l1)],.box [I t2,.t (tL l2)]]⟩)):=by
  intro x y z
  refine cq (fun j=>⟨[.und,.und,I t,.bp 0 0,.bp 1 0,.und,I j],[.box [I t1,.t (tL l1)],.box [I t2,.t (tL l2)]]⟩) (min l1.length l2.length) (fun p=>decide (nth l1 p≤t∧nth l2 p≤t)) _ _ rfl ?_ ?_ ?_ (by simp)
  · intro j hj hp
    have hp:¬(nth l1 j≤t∧nth l2 j≤t):=of_decide_eq_false hp
    by_cases c:nth l1 j≤t
    · simp(disch:=omega)only[go_sem,K.jH,↓reduceIte,c]
    · simp(disch:=omega)only[go_sem,K.jH,↓reduceIte,c]
  · intro j hj hp
    have hp:nth l1 j≤t∧nth l2 j≤t:=of_decide_eq_true hp
    refine⟨?_,by simp⟩
    simp(disch:=omega)only[go_sem,K.jH,↓reduceIte]
  · by_cases h1:l1.length≤l2.length
    · have e:min l1.length l2.length=l1.length:=by omega
      rw[e]
      simp(disch:=omega)only[go_sem,K.jH,↓reduceIte]
    · have e:min l1.length l2.length=l2.length:=by omega
      rw[e]
      simp(disch:=omega)only[go_sem,K.jH,↓reduceIte]
 rw[← EB]
 simp(disch:=omega)only[go_sem,K.jE,↓reduceIte,loop]
 cases hf:(List.range (min l1.length l2.length)).find? (fun p=>decide (nth l1 p≤t∧nth l2 p≤t))with
 | some j=>simp(disch:=omega)only[go_sem,↓reduceIte,Option.isSome]
 | none=>simp(disch:=omega)only[go_sem,↓reduceIte,Option.isSome]
def Cp(b:Bel)(aQ t:Int)(p:Nat):Bool:=(List.range b.ao.length).any fun i=>decide (0≤aQ∧aQ<(nth b.ao i).whr.length)&&decide ((p:Int)∈yl (nth (nth b.ao i).whr aQ.toNat) t)
def nS(b:Bel)(aQ t:Int):List Int:=fL 64 (Cp b aQ t)
theorem EM(b:Bel)(hs:b.sz)(aQ t:Int):aH 0 N.ez [.t b.e,I aQ,I t] []=some (.t (tL (nS b aQ t)),[]):=by
 refine av K.nI rfl ?_
 obtain⟨h1,h2⟩:=hs
 obtain⟨ws⟩:=b
 simp only at h1 h2
 have hlen:=fun k=>oF k (Cp ⟨ws⟩ aQ t)
 have inner:∀(j:Nat),j<64→∀a c:D,exS aH K.qM ⟨[a,I aQ,I t,.bp 0 0,c,.ref 1 0 (fL j (Cp ⟨ws⟩ aQ t)).length,I j,I 0],[.box [.t (.sl (ws.map World.e))],.arr 1 false 0 (((fL j (Cp ⟨ws⟩ aQ t)).map (T.int .i64)).map .t)]⟩=
  some (match (List.range ws.length).find? (fun i=>decide (0≤aQ∧aQ<(nth ws i).whr.length)&&decide ((j:Int)∈yl (nth (nth ws i).whr aQ.toNat) t))with
   | some i=>(.exit 2,⟨[.und,I aQ,I t,.bp 0 0,.und,.ref 1 0 ((fL j (Cp ⟨ws⟩ aQ t)).length+1),I j,I i],[.box [.t (.sl (ws.map World.e))],.arr 1 false 0 (((fL j (Cp ⟨ws⟩ aQ t)++[(j:Int)]).map (T.int .i64)).map .t)]⟩)
   | none=>(.exit 2,⟨[.und,I aQ,I t,.bp 0 0,.und,.ref 1 0 (fL j (Cp ⟨ws⟩ aQ t)).length,I j,I ws.length],[.box [.t (.sl (ws.map World.e))],.arr 1 false 0 (((fL j (Cp ⟨ws⟩ aQ t)).map (T.int .i64)).map .t)]⟩)):=by
  intro j hj a c
  have hlen:=hlen j
  refine cq (fun i=>⟨[.und,I aQ,I t,.bp 0 0,.und,.ref 1 0 (fL j (Cp ⟨ws⟩ aQ t)).length,I j,I i],[.box [.t (.sl (ws.map World.e))],.arr 1 false 0 (((fL j (Cp ⟨ws⟩ aQ t)).map (T.int .i64)).map .t)]⟩) ws.length _ _ _ rfl ?_ ?_ ?_ (by simp)
  · intro i hi hp
    have sz:=h2 _ (ai hi)
    generalize hx:nth ws i=x at*
    obtain⟨tags,whr⟩:=x
    obtain⟨s1,s2,s3⟩:=sz
    simp only at s1 s2 s3 hp
    generalize fL j (Cp ⟨ws⟩ aQ t)=L at*
    by_cases c1:0≤aQ
    · by_cases c2:aQ<whr.length
      · have ps:=ym (nth whr aQ.toNat) t (s3 _ (ai (by omega)))
        have hs:=mO (yl (nth whr aQ.toNat) t) j (by
         have:=oF (nth whr aQ.toNat).frm.length (fun j=>decide (nth (nth whr aQ.toNat).frm j≤t))
         have:=s3 _ (ai (l:=whr) (j:=aQ.toNat) (by omega))
         unfold yl;omega)
        simp only[c1,c2,and_self,decide_true,Bool.true_and,decide_eq_false_iff_not]at hp
        simp only[hp,decide_false]at hs
        generalize hy:nth whr aQ.toNat=y at*
        obtain⟨time,frm⟩:=y
        simp(disch:=omega)only[go_sem,K.gq,↓reduceIte,hx,hy,ps,hs]
      · simp(disch:=omega)only[go_sem,K.gq,↓reduceIte,hx]
    · simp(disch:=omega)only[go_sem,K.gq,↓reduceIte,hx]
  · intro i hi hp
    have sz:=h2 _ (ai hi)
    generalize hx:nth ws i=x at*
    obtain⟨tags,whr⟩:=x
    obtain⟨s1,s2,s3⟩:=sz
    simp only[aLr,decide_eq_true_eq]at s1 s2 s3 hp
    obtain⟨⟨c1,c2⟩,c3⟩:=hp
    generalize fL j (Cp ⟨ws⟩ aQ t)=L at*
    have ps:=ym (nth whr aQ.toNat) t (s3 _ (ai (by omega)))
    have hs:=mO (yl (nth whr aQ.toNat) t) j (by
     have:=oF (nth whr aQ.toNat).frm.length (fun j=>decide (nth (nth whr aQ.toNat).frm j≤t))
     have:=s3 _ (ai (l:=whr) (j:=aQ.toNat) (by omega))
     unfold yl;omega)
    simp only[c3,decide_true]at hs
    generalize hy:nth whr aQ.toNat=y at*
    obtain⟨time,frm⟩:=y
    refine⟨?_,by simp⟩
    simp(disch:=omega)only[go_sem,K.gq,↓reduceIte,hx,hy,ps,hs]
  · generalize fL j (Cp ⟨ws⟩ aQ t)=L at*
    simp(disch:=omega)only[go_sem,K.gq,↓reduceIte]
 have loop:∀a b c:D,exS aH K.qN ⟨[a,I aQ,I t,.bp 0 0,b,.ref 1 0 0,I 0,c],[.box [.t (.sl (ws.map World.e))],.arr 1 false 0 []]⟩=
  some (.exit 0,⟨[.und,I aQ,I t,.bp 0 0,.und,.ref 1 0 (fL 64 (Cp ⟨ws⟩ aQ t)).length,I 64,.und],[.box [.t (.sl (ws.map World.e))],.arr 1 false 0 (((fL 64 (Cp ⟨ws⟩ aQ t)).map (T.int .i64)).map .t)]⟩):=by
  intro a b c
  refine bz (fun j=>⟨[.und,I aQ,I t,.bp 0 0,.und,.ref 1 0 (fL j (Cp ⟨ws⟩ aQ t)).length,I j,.und],[.box [.t (.sl (ws.map World.e))],.arr 1 false 0 (((fL j (Cp ⟨ws⟩ aQ t)).map (T.int .i64)).map .t)]⟩) 64 rfl ?_ ?_ (by simp)
  · intro j hj
    have inner:=inner j hj
    have hlen:=hlen j
    rw[oW]
    have e:Cp ⟨ws⟩ aQ t j=((List.range ws.length).find? (fun i=>decide (0≤aQ∧aQ<(nth ws i).whr.length)&&decide ((j:Int)∈yl (nth (nth ws i).whr aQ.toNat) t))).isSome:=by rw[EB];rfl
    cases hf:(List.range ws.length).find? (fun i=>decide (0≤aQ∧aQ<(nth ws i).whr.length)&&decide ((j:Int)∈yl (nth (nth ws i).whr aQ.toNat) t))with
    | some i=>
      rw[hf]at e inner
      simp only[Option.isSome]at e
      simp(disch:=omega)only[go_sem,K.jW,↓reduceIte,inner,e]
    | none=>
      rw[hf]at e inner
      simp only[Option.isSome]at e
      simp(disch:=omega)only[go_sem,K.jW,↓reduceIte,inner,e,aLt]
  · simp(disch:=omega)only[go_sem,K.jW,↓reduceIte]
    rfl
 have:=hlen 64
 simp(disch:=omega)only[go_sem,K.ez,↓reduceIte,loop,nS]
def jd(m:aC)(bY:List Int)(t:Int)(j:Nat):List Wh:=(List.range j).map fun i=>(iD m (nth bY i) t).1
theorem GZ(m:aC)(bY:List Int)(t:Int)(j:Nat):jd m bY t (j+1)=jd m bY t j++[(iD m (nth bY j) t).1]:=by
 unfold jd;rw[List.range_succ,List.map_append];rfl
@[simp] theorem sq (m : aC) (bY : List Int) (t : Int) (j : Nat) : (jd m bY t j).length = j := by simp [jd]
def vv(m:aC)(tags bY:List Int)(t:Int):Bel×Int:=
 if tags.length=bY.length∧1≤tags.length∧tags.length≤12 then
  if iu tags=true then match (List.range tags.length).find? (fun i=> !decide ((iD m (nth bY i) t).2=0))with
   | some i=>(⟨[]⟩,(iD m (nth bY i) t).2)
   | none=>(⟨[⟨tags,jd m bY t tags.length⟩]⟩,0)
  else(⟨[]⟩,41)
 else(⟨[]⟩,6)
abbrev stH(m:aC)(tags:List Int)(r:D)(ws:List Wh):aq:=[.box (ae m),.box [r],.arr 1 false 0 ((tags.map (T.int .i64)).map .t),.box [.ref 2 0 tags.length,.ref 5 0 ws.length],.arr 2 false 0 [],.arr 2 false 0 ((ws.map Wh.e).map .t)]
theorem Je{m:aC}(h:m.ok)(tags bY:List Int)(hl:tags.length≤1000000)(t:Int):
 aH 0 N.dS [.t m.e,.t (tL tags),.t (tL bY),I t] []=some (.tup [.t (vv m tags bY t).1.e,I (vv m tags bY t).2],[]):=by
 refine av K.rH rfl ?_
 have ck:=pO h
 have pr:=GQ tags hl
 unfold vv
 by_cases c1:tags.length=bY.length
 · by_cases c2:tags.length<1
   · simp(disch:=omega)only[go_sem,K.dS,↓reduceIte,ck,show ¬(tags.length=bY.length∧1≤tags.length∧tags.length≤12)by omega]
     rfl
   · by_cases c3:12<tags.length
     · simp(disch:=omega)only[go_sem,K.dS,↓reduceIte,ck,show ¬(tags.length=bY.length∧1≤tags.length∧tags.length≤12)by omega]
       rfl
     · have c:tags.length=bY.length∧1≤tags.length∧tags.length≤12:=by omega
       rw[if_pos c]
       clear c
       cases hp:iu tags with
       | false=>
         rw[hp]at pr
         simp(disch:=omega)only[go_sem,K.dS,↓reduceIte,ck,pr,aLt]
         rfl
       | true=>
         rw[hp]at pr
         have loop:∀a b c d:D,exS aH K.vZ ⟨[a,.t (tL tags),.t (tL bY),I t,.bp 0 0,.bp 1 0,b,.bp 3 0,I 0,c,d],stH m tags .nil []⟩=
          some (match (List.range tags.length).find? (fun i=> !decide ((iD m (nth bY i) t).2=0))with
           | some i=>(.ret,⟨[.und,.t (tL tags),.t (tL bY),I t,.bp 0 0,.bp 1 0,I (iD m (nth bY i) t).2,.bp 3 0,I i,.bp 6 0,I (iD m (nth bY i) t).2],stH m tags .nil (jd m bY t i)++[.box [I (iD m (nth bY i) t).1.time,.t (tL (iD m (nth bY i) t).1.frm)]]⟩)
           | none=>(.exit 0,⟨[.und,.t (tL tags),.t (tL bY),I t,.bp 0 0,.bp 1 0,.und,.bp 3 0,I tags.length,.und,.und],stH m tags .nil (jd m bY t tags.length)⟩)):=by
          intro a b c d
          refine cq (fun j=>⟨[.und,.t (tL tags),.t (tL bY),I t,.bp 0 0,.bp 1 0,.und,.bp 3 0,I j,.und,.und],stH m tags .nil (jd m bY t j)⟩) tags.length _ _ _ rfl ?_ ?_ ?_ (by simp)
          · intro j hj hp
            have st:=KF h (nth bY j) t
            have ln:=sq m bY t j
            have hp:(iD m (nth bY j) t).2=0:=by simpa using hp
            rw[GZ]
            generalize jd m bY t j=L at*
            generalize iD m (nth bY j) t=r at*
            obtain⟨⟨time,frm⟩,e⟩:=r
            simp only at st hp ⊢
            subst hp
            simp(disch:=omega)only[go_sem,K.mc,↓reduceIte,stH,st,reduceAdd,reduceSub]
            done
          · intro j hj hp
            have st:=KF h (nth bY j) t
            have ln:=sq m bY t j
            have hp:(iD m (nth bY j) t).2≠0:=by simpa using hp
            generalize jd m bY t j=L at*
            generalize iD m (nth bY j) t=r at*
            obtain⟨⟨time,frm⟩,e⟩:=r
            simp only at st hp ⊢
            refine⟨?_,by simp⟩
            simp(disch:=omega)only[go_sem,K.mc,↓reduceIte,stH,st,reduceAdd,reduceSub]
            done
          · have ln:=sq m bY t tags.length
            generalize jd m bY t tags.length=L at*
            simp(disch:=omega)only[go_sem,K.mc,↓reduceIte]
         simp only[stH,List.map_nil,List.length_nil]at loop
         simp(disch:=omega)only[go_sem,K.dS,↓reduceIte,ck,pr,loop]
         cases hf:(List.range tags.length).find? (fun i=> !decide ((iD m (nth bY i) t).2=0))with
         | some i=>
           simp(disch:=omega)only[go_sem,↓reduceIte]
           rfl
         | none=>
           have ln:=sq m bY t tags.length
           generalize jd m bY t tags.length=L at*
           simp(disch:=omega)only[go_sem,↓reduceIte]
           rfl
 · simp(disch:=omega)only[go_sem,K.dS,↓reduceIte,ck,show ¬(tags.length=bY.length∧1≤tags.length∧tags.length≤12)by omega]
   rfl
@[go_sem] theorem agO : ([] : List D).all oL = true := (rfl)
@[go_sem] theorem aev (d : D) (r : List D) : (d :: r).all oL = (oL d && r.all oL) := (rfl)
@[go_sem] theorem YX (cs : List T) : oL (.t (.agg cs)) = false := (rfl)
@[go_sem] theorem YY (k : IntKind) (n : Int) : oL (.t (.int k n)) = true := (rfl)
@[go_sem] theorem aka (l : List Wh) (k : Nat) (a : Int) (b : List Int) : (List.map D.t (List.map Wh.e l)).set k (D.t (T.agg [tI a, tL b])) = List.map D.t (List.map Wh.e (l.set k ⟨a, b⟩)) := by
 rw[List.map_set,List.map_set]
def DY(m:aC)(tag:Int)(l:List Int)(a b:Int)(x:World):Wh×Int:=C4 m (nth x.whr (cE x.tags tag).toNat) l a b
def Jf(tag:Int)(x:World)(w:Wh):World:=⟨x.tags,x.whr.set (cE x.tags tag).toNat w⟩
def G0(tag:Int)(r:Wh×Int)(x:World)(out:List World):List World:=
 if r.2=43 then out else out++[if r.2=0 then Jf tag x r.1 else x]
def pg(m:aC)(tag:Int)(l:List Int)(a b:Int)(ws:List World):Nat→List World
 | 0=>[]
 | j+1=>G0 tag (DY m tag l a b (nth ws j)) (nth ws j) (pg m tag l a b ws j)
theorem PS(tag:Int)(r:Wh×Int)(x:World)(out:List World):(G0 tag r x out).length≤out.length+1:=by
 unfold G0;split<;>simp
theorem yy(m:aC)(tag:Int)(l:List Int)(a b:Int)(ws:List World):∀j,(pg m tag l a b ws j).length≤j
 | 0=>by simp[pg]
 | j+1=>by
   have:=yy m tag l a b ws j
   have:=PS tag (DY m tag l a b (nth ws j)) (nth ws j) (pg m tag l a b ws j)
   simp only[pg];omega
abbrev zB(m:aC)(ws out:List World):aq:=[.box (ae m),.box [.t (.sl (ws.map World.e))],.box [.nil],.box [.ref 4 0 out.length],.arr 2 false 0 ((out.map World.e).map .t)]
theorem G1{m:aC}(h:m.ok)(ws:List World)(hw:ws.length≤1000000)(tag:Int)(l:List Int)(hp:l.length≤1000000)(a b:Int)(i:Nat)(hi:i<ws.length)(hs:(nth ws i).sz)
 (hb:0≤cE (nth ws i).tags tag) (hb2:cE (nth ws i).tags tag<(nth ws i).whr.length) (out:List World) (ho:out.length≤1000000):
 ((DY m tag l a b (nth ws i)).2≠6∧(DY m tag l a b (nth ws i)).2≠8→gp true [0,1,9,10,13,14,15,16,17,18] 5 (exS aH K.fO ⟨[.und,.und,I tag,.t (tL l),I a,I b,.bp 0 0,.bp 1 0,.bp 2 0,.und,.und,.bp 3 0,I i,.und,.und,.und,.und,.und,.und],zB m ws out⟩)=
   some ⟨[.und,.und,I tag,.t (tL l),I a,I b,.bp 0 0,.bp 1 0,.bp 2 0,.und,.und,.bp 3 0,I (i+1),.und,.und,.und,.und,.und,.und],zB m ws (G0 tag (DY m tag l a b (nth ws i)) (nth ws i) out)⟩)∧
 ((DY m tag l a b (nth ws i)).2=6∨(DY m tag l a b (nth ws i)).2=8→∃vs H,exS aH K.fO ⟨[.und,.und,I tag,.t (tL l),I a,I b,.bp 0 0,.bp 1 0,.bp 2 0,.und,.und,.bp 3 0,I i,.und,.und,.und,.und,.und,.und],zB m ws out⟩=
   some (.ret,⟨vs,H⟩)∧vs[8]?=some (.bp 2 0)∧vs[9]?=some (I (DY m tag l a b (nth ws i)).2)∧H[2]?=some (.box [.t (.sl (ws.map World.e))])):=by
 unfold DY G0 Jf
 have c1:=my (nth ws i) hs
 have br:=o5 (nth ws i).tags tag (by have:=hs.1;omega)
 have s3:=hs.2.2 _ (ai (l:=(nth ws i).whr) (j:=(cE (nth ws i).tags tag).toNat) (by omega))
 have se:=adZ h (nth (nth ws i).whr (cE (nth ws i).tags tag).toNat) s3 l hp a b
 generalize hx:nth ws i=x at*
 obtain⟨tags,whr⟩:=x
 simp only at c1 br s3 se hb hb2 ⊢
 generalize cE tags tag=k at*
 generalize hy:nth whr k.toNat=y at*
 generalize C4 m y l a b=r at*
 obtain⟨⟨time,frm⟩,e⟩:=r
 obtain⟨t0,f0⟩:=y
 obtain⟨s1,s2, -⟩:=hs
 simp only at s1 s2 s3 se ⊢
 constructor
 · rintro ⟨n6,n8⟩
   by_cases e43:e=43
   · subst e43
     simp(disch:=omega)only[go_sem,K.fO,↓reduceIte,zB,hx,hy,c1,br,se,reduceAdd,reduceSub]
   · by_cases e0:e=0
     · subst e0
       simp(disch:=omega)only[go_sem,K.fO,↓reduceIte,zB,hx,hy,c1,br,se,reduceAdd,reduceSub]
     · simp(disch:=omega)only[go_sem,K.fO,↓reduceIte,zB,hx,hy,c1,br,se,reduceAdd,reduceSub]
 · rintro (h68 | h68)<;>subst h68
   · simp(disch:=omega)only[go_sem,K.fO,↓reduceIte,zB,hx,hy,c1,br,se,reduceAdd,reduceSub]
     exact⟨_,_,rfl,rfl,rfl,rfl⟩
   · simp(disch:=omega)only[go_sem,K.fO,↓reduceIte,zB,hx,hy,c1,br,se,reduceAdd,reduceSub]
     exact⟨_,_,rfl,rfl,rfl,rfl⟩
def G2(m:aC)(tag:Int)(l:List Int)(a b:Int)(ws:List World)(j:Nat):Bool:=decide ((DY m tag l a b (nth ws j)).2=6∨(DY m tag l a b (nth ws j)).2=8)
def uq(m:aC)(b:Bel)(tag:Int)(l:List Int)(a c:Int):Bel×Int:=
 if pf m b tag≠0 then(b,pf m b tag)else match (List.range b.ao.length).find? (G2 m tag l a c b.ao)with
  | some i=>(b,(DY m tag l a c (nth b.ao i)).2)
  | none=>if(pg m tag l a c b.ao b.ao.length).length=0 then(b,43)else(⟨pg m tag l a c b.ao b.ao.length⟩,0)
theorem PT{m:aC}(h:m.ok)(b:Bel)(hs:b.sz)(tag:Int)(l:List Int)(hp:l.length≤1000000)(a c:Int):
 aH 0 N.iW [.t m.e,.t b.e,I tag,.t (tL l),I a,I c] []=some (.tup [.t (uq m b tag l a c).1.e,I (uq m b tag l a c).2],[]):=by
 refine av K.wY rfl ?_
 have cb:=vo b hs
 have bo:=KV h b hs tag
 unfold uq
 by_cases e0:pf m b tag=0
 · have hb:qV m b=true:=by
    unfold pf at e0
    by_cases hb:qV m b=true
    · exact hb
    · rw[if_pos (by simpa using hb)]at e0;omega
   have ht:0≤cE (nth b.ao 0).tags tag:=by
    unfold pf at e0
    rw[if_neg (by simp[hb])]at e0
    by_cases ht:cE (nth b.ao 0).tags tag<0
    · rw[if_pos ht]at e0;omega
    · omega
   have bb:∀i,i<b.ao.length→0≤cE (nth b.ao i).tags tag∧cE (nth b.ao i).tags tag<(nth b.ao i).whr.length:=fun i hi=>by
    obtain⟨-, -, -, -,h5⟩:=gH hb
    obtain⟨w1,w2, -⟩:=kc (h5 i hi)
    have b1:=Co hb ht (i:=i) hi
    have b2:=(zz b1).1
    exact⟨b1,by omega⟩
   rw[e0]at bo
   obtain⟨ws⟩:=b
   obtain⟨s1,s2⟩:=hs
   simp only at s1 s2 bb cb bo ⊢
   have ln:=yy m tag l a c ws
   have loop:=fun x y z u v w p q r=>ny (gc:=true) (dead:=[0,1,9,10,13,14,15,16,17,18]) (c:=K.fO)
    (vs:=[x,y,I tag,.t (tL l),I a,I c,.bp 0 0,.bp 1 0,.bp 2 0,z,u,.bp 3 0,I 0,v,w,p,q,r,.und]) (H:=zB m ws [])
    (fun j=>⟨[.und,.und,I tag,.t (tL l),I a,I c,.bp 0 0,.bp 1 0,.bp 2 0,.und,.und,.bp 3 0,I j,.und,.und,.und,.und,.und,.und],zB m ws (pg m tag l a c ws j)⟩) ws.length (G2 m tag l a c ws)
    (fun j q=>q.1= .ret∧q.2.vs[8]?=some (.bp 2 0)∧q.2.vs[9]?=some (I (DY m tag l a c (nth ws j)).2)∧q.2.H[2]?=some (.box [.t (.sl (ws.map World.e))]))
    (.exit 0,⟨[.und,.und,I tag,.t (tL l),I a,I c,.bp 0 0,.bp 1 0,.bp 2 0,.und,.und,.bp 3 0,I ws.length,.und,.und,.und,.und,.und,.und],zB m ws (pg m tag l a c ws ws.length)⟩) rfl
    (fun j hj hq=>by
     have:=ln j
     have hq:¬((DY m tag l a c (nth ws j)).2=6∨(DY m tag l a c (nth ws j)).2=8):=by simpa [G2]using hq
     obtain⟨b1,b2⟩:=bb j hj
     exact(G1 h ws s1 tag l hp a c j hj (s2 _ (ai hj)) b1 b2 (pg m tag l a c ws j) (by omega)).1 (by omega))
    (fun j hj hq=>by
     have:=ln j
     have hq:(DY m tag l a c (nth ws j)).2=6∨(DY m tag l a c (nth ws j)).2=8:=by simpa [G2]using hq
     obtain⟨b1,b2⟩:=bb j hj
     obtain⟨vs,H,q1,q2⟩:=(G1 h ws s1 tag l hp a c j hj (s2 _ (ai hj)) b1 b2 (pg m tag l a c ws j) (by omega)).2 hq
     exact⟨_,q1,by simp,rfl,q2⟩)
    (by
     have:=ln ws.length
     generalize pg m tag l a c ws ws.length=L at*
     simp(disch:=omega)only[go_sem,K.fO,↓reduceIte,zB,reduceAdd,reduceSub]) (by simp)
   have loop':∀x y z u v w p q r,_∨_:=loop
   clear loop
   rcases loop' (.t m.e) (.t (Bel.e ⟨ws⟩)) (I 0) (I 0) .und .und .und .und .und with⟨e1,e2⟩ | ⟨j,⟨x,vs,H⟩,e1,e2,e3,e4,e5,e6⟩
   · have e2:exS aH K.tP _=_:=e2
     simp only[zB,List.map_nil,List.length_nil]at e2
     have:=ln ws.length
     rw[e1]
     generalize pg m tag l a c ws ws.length=L at*
     by_cases L0:L.length=0
     · simp(disch:=omega)only[go_sem,K.iW,↓reduceIte,cb,bo,e2,L0,reduceAdd,reduceSub,ne_eq,not_true_eq_false]
     · simp(disch:=omega)only[go_sem,K.iW,↓reduceIte,cb,bo,e2,L0,reduceAdd,reduceSub,ne_eq,not_true_eq_false]
   · have e2:exS aH K.tP _=_:=e2
     simp only[zB,List.map_nil,List.length_nil]at e2
     rw[e1]
     simp only at e3 e4 e5 e6
     subst e3
     simp(disch:=omega)only[go_sem,K.iW,↓reduceIte,cb,bo,e2,reduceAdd,reduceSub,ne_eq,not_true_eq_false,e4,e5,e6,List.take_zero]
 · obtain⟨ws⟩:=b
   simp(disch:=omega)only[go_sem,K.iW,↓reduceIte,cb,bo,e0,ne_eq,not_false_eq_true]
def DZ(m:aC)(tag:Int)(l:List Int)(a b bl:Int)(x:World):Wh×Int:=DO m (nth x.whr (cE x.tags tag).toNat) l a b bl
def Jg(tag:Int)(r:Wh×Int)(x:World)(out:List World):List World:=out++[if r.2=0 then Jf tag x r.1 else x]
def qZ(m:aC)(tag:Int)(l:List Int)(a b bl:Int)(ws:List World):Nat→List World
 | 0=>[]
 | j+1=>Jg tag (DZ m tag l a b bl (nth ws j)) (nth ws j) (qZ m tag l a b bl ws j)
theorem yz(m:aC)(tag:Int)(l:List Int)(a b bl:Int)(ws:List World):∀j,(qZ m tag l a b bl ws j).length=j
 | 0=>rfl
 | j+1=>by
   simp only[qZ,Jg,aLv,yz m tag l a b bl ws j,List.length_singleton]
theorem G3{m:aC}(h:m.ok)(ws:List World)(hw:ws.length≤1000000)(tag:Int)(l:List Int)(hp:l.length≤1000000)(a b bl:Int)(i:Nat)(hi:i<ws.length)(hs:(nth ws i).sz)
 (hb:0≤cE (nth ws i).tags tag) (hb2:cE (nth ws i).tags tag<(nth ws i).whr.length) (out:List World) (ho:out.length≤1000000):
 ((DZ m tag l a b bl (nth ws i)).2≠6∧(DZ m tag l a b bl (nth ws i)).2≠8→gp true [0,1,10,11,14,15,16,17] 5 (exS aH K.dO ⟨[.und,.und,I tag,.t (tL l),I a,I b,I bl,.bp 0 0,.bp 1 0,.bp 2 0,.und,.und,.bp 3 0,I i,.und,.und,.und,.und],zB m ws out⟩)=
   some ⟨[.und,.und,I tag,.t (tL l),I a,I b,I bl,.bp 0 0,.bp 1 0,.bp 2 0,.und,.und,.bp 3 0,I (i+1),.und,.und,.und,.und],zB m ws (Jg tag (DZ m tag l a b bl (nth ws i)) (nth ws i) out)⟩)∧
 ((DZ m tag l a b bl (nth ws i)).2=6∨(DZ m tag l a b bl (nth ws i)).2=8→∃vs H,exS aH K.dO ⟨[.und,.und,I tag,.t (tL l),I a,I b,I bl,.bp 0 0,.bp 1 0,.bp 2 0,.und,.und,.bp 3 0,I i,.und,.und,.und,.und],zB m ws out⟩=
   some (.ret,⟨vs,H⟩)∧vs[9]?=some (.bp 2 0)∧vs[10]?=some (I (DZ m tag l a b bl (nth ws i)).2)∧H[2]?=some (.box [.t (.sl (ws.map World.e))])):=by
 unfold DZ Jg Jf
 have c1:=my (nth ws i) hs
 have br:=o5 (nth ws i).tags tag (by have:=hs.1;omega)
 have s3:=hs.2.2 _ (ai (l:=(nth ws i).whr) (j:=(cE (nth ws i).tags tag).toNat) (by omega))
 have se:=ad0 h (nth (nth ws i).whr (cE (nth ws i).tags tag).toNat) s3 l hp a b bl
 generalize hx:nth ws i=x at*
 obtain⟨tags,whr⟩:=x
 simp only at c1 br s3 se hb hb2 ⊢
 generalize cE tags tag=k at*
 generalize hy:nth whr k.toNat=y at*
 generalize DO m y l a b bl=r at*
 obtain⟨⟨time,frm⟩,e⟩:=r
 obtain⟨t0,f0⟩:=y
 obtain⟨s1,s2, -⟩:=hs
 simp only at s1 s2 s3 se ⊢
 constructor
 · rintro ⟨n6,n8⟩
   by_cases e0:e=0
   · subst e0
     simp(disch:=omega)only[go_sem,K.dO,↓reduceIte,zB,hx,hy,c1,br,se,reduceAdd,reduceSub]
   · simp(disch:=omega)only[go_sem,K.dO,↓reduceIte,zB,hx,hy,c1,br,se,reduceAdd,reduceSub]
 · rintro (h68 | h68)<;>subst h68
   · simp(disch:=omega)only[go_sem,K.dO,↓reduceIte,zB,hx,hy,c1,br,se,reduceAdd,reduceSub]
     exact⟨_,_,rfl,rfl,rfl,rfl⟩
   · simp(disch:=omega)only[go_sem,K.dO,↓reduceIte,zB,hx,hy,c1,br,se,reduceAdd,reduceSub]
     exact⟨_,_,rfl,rfl,rfl,rfl⟩
def G4(m:aC)(tag:Int)(l:List Int)(a b bl:Int)(ws:List World)(j:Nat):Bool:=decide ((DZ m tag l a b bl (nth ws j)).2=6∨(DZ m tag l a b bl (nth ws j)).2=8)
def ur(m:aC)(b:Bel)(tag:Int)(l:List Int)(a c bl:Int):Bel×Int:=
 if pf m b tag≠0 then(b,pf m b tag)else match (List.range b.ao.length).find? (G4 m tag l a c bl b.ao)with
  | some i=>(b,(DZ m tag l a c bl (nth b.ao i)).2)
  | none=>(⟨qZ m tag l a c bl b.ao b.ao.length⟩,0)
theorem Jh{m:aC}{b:Bel}{tag:Int}(e0:pf m b tag=0):qV m b=true∧∀i,i<b.ao.length→0≤cE (nth b.ao i).tags tag∧cE (nth b.ao i).tags tag<(nth b.ao i).whr.length:=by
 have hb:qV m b=true:=by
  unfold pf at e0
  by_cases hb:qV m b=true
  · exact hb
  · rw[if_pos (by simpa using hb)]at e0;omega
 have ht:0≤cE (nth b.ao 0).tags tag:=by
  unfold pf at e0
  rw[if_neg (by simp[hb])]at e0
  by_cases ht:cE (nth b.ao 0).tags tag<0
  · rw[if_pos ht]at e0;omega
  · omega
 refine⟨hb,fun i hi=>?_⟩
 obtain⟨-, -, -, -,h5⟩:=gH hb
 obtain⟨w1,w2, -⟩:=kc (h5 i hi)
 have b1:=Co hb ht (i:=i) hi
 have b2:=(zz b1).1
 exact⟨b1,by omega⟩
theorem PU{m:aC}(h:m.ok)(b:Bel)(hs:b.sz)(tag:Int)(l:List Int)(hp:l.length≤1000000)(a c bl:Int):
 aH 0 N.eY [.t m.e,.t b.e,I tag,.t (tL l),I a,I c,I bl] []=some (.tup [.t (ur m b tag l a c bl).1.e,I (ur m b tag l a c bl).2],[]):=by
 refine av K.p5 rfl ?_
 have cb:=vo b hs
 have bo:=KV h b hs tag
 unfold ur
 by_cases e0:pf m b tag=0
 · obtain⟨hb,bb⟩:=Jh e0
   rw[e0]at bo
   obtain⟨ws⟩:=b
   obtain⟨s1,s2⟩:=hs
   simp only at s1 s2 bb cb bo ⊢
   have ln:=yz m tag l a c bl ws
   have loop:=fun x y u v w p q r=>ny (gc:=true) (dead:=[0,1,10,11,14,15,16,17]) (c:=K.dO)
    (vs:=[x,y,I tag,.t (tL l),I a,I c,I bl,.bp 0 0,.bp 1 0,.bp 2 0,u,v,.bp 3 0,I 0,w,p,q,r]) (H:=zB m ws [])
    (fun j=>⟨[.und,.und,I tag,.t (tL l),I a,I c,I bl,.bp 0 0,.bp 1 0,.bp 2 0,.und,.und,.bp 3 0,I j,.und,.und,.und,.und],zB m ws (qZ m tag l a c bl ws j)⟩) ws.length (G4 m tag l a c bl ws)
    (fun j q=>q.1= .ret∧q.2.vs[9]?=some (.bp 2 0)∧q.2.vs[10]?=some (I (DZ m tag l a c bl (nth ws j)).2)∧q.2.H[2]?=some (.box [.t (.sl (ws.map World.e))]))
    (.exit 0,⟨[.und,.und,I tag,.t (tL l),I a,I c,I bl,.bp 0 0,.bp 1 0,.bp 2 0,.und,.und,.bp 3 0,I ws.length,.und,.und,.und,.und],zB m ws (qZ m tag l a c bl ws ws.length)⟩) rfl
    (fun j hj hq=>by
     have:=ln j
     have hq:¬((DZ m tag l a c bl (nth ws j)).2=6∨(DZ m tag l a c bl (nth ws j)).2=8):=by simpa [G4]using hq
     obtain⟨b1,b2⟩:=bb j hj
     exact(G3 h ws s1 tag l hp a c bl j hj (s2 _ (ai hj)) b1 b2 (qZ m tag l a c bl ws j) (by omega)).1 (by omega))
    (fun j hj hq=>by
     have:=ln j
     have hq:(DZ m tag l a c bl (nth ws j)).2=6∨(DZ m tag l a c bl (nth ws j)).2=8:=by simpa [G4]using hq
     obtain⟨b1,b2⟩:=bb j hj
     obtain⟨vs,H,q1,q2⟩:=(G3 h ws s1 tag l hp a c bl j hj (s2 _ (ai hj)) b1 b2 (qZ m tag l a c bl ws j) (by omega)).2 hq
     exact⟨_,q1,by simp,rfl,q2⟩)
    (by
     have:=ln ws.length
     generalize qZ m tag l a c bl ws ws.length=L at*
     simp(disch:=omega)only[go_sem,K.dO,↓reduceIte,zB,reduceAdd,reduceSub]) (by simp)
   rcases loop (.t m.e) (.t (Bel.e ⟨ws⟩)) (I 0) (I 0) .und .und .und .und with⟨e1,e2⟩ | ⟨j,⟨x,vs,H⟩,e1,e2,e3,e4,e5,e6⟩
   · have e2:exS aH K.oR _=_:=e2
     simp only[zB,List.map_nil,List.length_nil]at e2
     have:=ln ws.length
     rw[e1]
     generalize qZ m tag l a c bl ws ws.length=L at*
     simp(disch:=omega)only[go_sem,K.eY,↓reduceIte,cb,bo,e2,reduceAdd,reduceSub,ne_eq,not_true_eq_false]
   · have e2:exS aH K.oR _=_:=e2
     simp only[zB,List.map_nil,List.length_nil]at e2
     rw[e1]
     simp only at e3 e4 e5 e6
     subst e3
     simp(disch:=omega)only[go_sem,K.eY,↓reduceIte,cb,bo,e2,reduceAdd,reduceSub,ne_eq,not_true_eq_false,e4,e5,e6,List.take_zero]
 · obtain⟨ws⟩:=b
   simp(disch:=omega)only[go_sem,K.eY,↓reduceIte,cb,bo,e0,ne_eq,not_false_eq_true]
theorem Bf{gc:Bool}{dead:List Nat}{c:C}{vs:List D}{H:aq}(P:Nat→St→Prop)(n:Nat)(Q:Ex×St→Prop)(h0:P 0 ⟨lV dead vs,H⟩)
 (hs:∀j st,j<n→P j st→∃st',gp gc dead st.H.length (exS aH c st)=some st'∧P (j+1) st')
 (he:∀st,P n st→∃q,exS aH c st=some q∧q.1≠ .normal∧Q q):∃q,exS aH (.loop gc dead c) ⟨vs,H⟩=some q∧Q q:=by
 have key:∀(k j:Nat) (st:St),j+k=n→P j st→∃q,nj gc dead (exS aH c) st=some q∧Q q:=by
  intro k
  induction k with
  | zero=>
    intro j st hj hp
    obtain⟨q,h1,h2,h3⟩:=he st (by rw[← hj];exact hp)
    exact⟨q,dW h1 h2,h3⟩
  | succ k ih=>
    intro j st hj hp
    obtain⟨st',h1,h2⟩:=hs j st (by omega) hp
    obtain⟨q,h3,h4⟩:=ih (j+1) st' (by omega) h2
    exact⟨q,fC h1 h3,h4⟩
 exact key n 0 _ (by omega) h0
abbrev ints(l:List Int):List D:=(l.map (T.int .i64)).map .t
abbrev whs(l:List Wh):List D:=(l.map Wh.e).map .t
def je(out:List World)(x:World):Nat:=match (List.range out.length).find? (fun k=> !um (nth out k).tags x.tags)with
 | some k=>k
 | none=>out.length
theorem EN(out:List World)(x:World):je out x≤out.length:=by
 unfold je
 split
 · rename_i k h;exact Nat.le_of_lt (B7 h).1
 · exact aLs _
def nT(a b:List Wh):Nat→List Wh
 | 0=>a
 | p+1=>(nT a b p).set p (qg (nth a p) (nth b p)).1
theorem q6(a b:List Wh):∀p,(nT a b p).length=a.length
 | 0=>rfl
 | p+1=>by simp only[nT,List.length_set,q6 a b p]
theorem G5(a b:List Wh):∀p q,p≤q→nth (nT a b p) q=nth a q
 | 0,q,_=>rfl
 | p+1,q,h=>by
   have e:nth ((nT a b p).set p (qg (nth a p) (nth b p)).1) q=nth (nT a b p) q:=by
    unfold nth;rw[aLl,aLi (by omega),←aLl]
   simp only[nT,e]
   exact G5 a b p q (by omega)
def D0(a b:List Wh):List Wh:=nT a b (min a.length b.length)
def sr(out:List World)(x:World):List World:=
 if je out x<out.length∧(nth out (je out x)).tags=x.tags then out.set (je out x) ⟨x.tags,D0 (nth out (je out x)).whr x.whr⟩
 else out.take (je out x)++[x]++out.drop (je out x)
def uu(l:List World):Nat→List World
 | 0=>[]
 | j+1=>sr (uu l j) (nth l j)
def C5(l:List World):List World:=uu l l.length
structure Rp(H:aq)(id:Nat)(es:List D)(fa fb:Nat→Nat)(out:List World):Prop where
 arr:H[id]?=some (.arr 2 false 0 es)
 len:es.length=out.length
 el:∀j,j<out.length→es[j]?=some (.agg [.ref (fa j) 0 (nth out j).tags.length,.ref (fb j) 0 (nth out j).whr.length])
 ha:∀j,j<out.length→H[fa j]?=some (.arr 1 false 0 (ints (nth out j).tags))
 hb:∀j,j<out.length→H[fb j]?=some (.arr 2 false 0 (whs (nth out j).whr))
 na:∀j,j<out.length→fa j≠id
 nb:∀j,j<out.length→fb j≠id
 nab:∀i j,i<out.length→j<out.length→fa i≠fb j
 nbb:∀i j,i<out.length→j<out.length→i≠j→fb i≠fb j
def Rep(H:aq)(v:D)(out:List World):Prop:=(v= .nil∧out=[])∨∃id es fa fb,v= .ref id 0 out.length∧0<out.length∧Rp H id es fa fb out
theorem YZ(l:List World)(i:Nat)(hi:i<l.length)(out:List World)(ho:out.length≤1000000)(hso:∀x∈out,x.sz)(hsx:(nth l i).sz)(H:aq)(v:D)(hr:Rep H v out)(a b:D):
 exS aH K.rK ⟨[.t (.sl (l.map World.e)),a,v,I i,I 0,b],H⟩=some (.exit 2,⟨[.t (.sl (l.map World.e)),.und,v,I i,I (je out (nth l i)),.und],H⟩):=by
 rcases hr with⟨rfl,rfl⟩ | ⟨id,es,fa,fb,rfl,h0,hr⟩
 · have:je [] (nth l i)=0:=rfl
   rw[this]
   refine ue (dW ?_ (by simp))
   simp(disch:=omega)only[go_sem,K.kP,↓reduceIte,reduceAdd,reduceSub]
 · have key:exS aH K.rK ⟨[.t (.sl (l.map World.e)),a,.ref id 0 out.length,I i,I 0,b],H⟩=some (match (List.range out.length).find? (fun k=> !um (nth out k).tags (nth l i).tags)with
    | some k=>(.exit 2,⟨[.t (.sl (l.map World.e)),.und,.ref id 0 out.length,I i,I k,.und],H⟩)
    | none=>(.exit 2,⟨[.t (.sl (l.map World.e)),.und,.ref id 0 out.length,I i,I out.length,.und],H⟩)):=by
    refine cq (fun k=>⟨[.t (.sl (l.map World.e)),.und,.ref id 0 out.length,I i,I k,.und],H⟩) out.length _ _ _ rfl ?_ ?_ ?_ (by simp)
    · intro k hk hp
      have hp:um (nth out k).tags (nth l i).tags=true:=by simpa using hp
      have s1:=(hso _ (ai hk)).1
      have s2:=hsx.1
      have ls:=I8 (nth out k).tags (nth l i).tags s1 s2
      have e1:=hr.arr
      have e2:=hr.len
      have e3:=hr.el k hk
      have e4:=hr.ha k hk
      generalize nth out k=y at*
      obtain⟨ta,wa⟩:=y
      generalize hx:nth l i=x at*
      obtain⟨tb,wb⟩:=x
      simp only at s1 s2 ls e3 e4 hp
      simp(disch:=omega)only[go_sem,K.kP,↓reduceIte,reduceAdd,reduceSub,e1,e2,e3,e4,hx,ls,hp]
      done
    · intro k hk hp
      have hp:um (nth out k).tags (nth l i).tags=false:=by simpa using hp
      have s1:=(hso _ (ai hk)).1
      have s2:=hsx.1
      have ls:=I8 (nth out k).tags (nth l i).tags s1 s2
      have e1:=hr.arr
      have e2:=hr.len
      have e3:=hr.el k hk
      have e4:=hr.ha k hk
      generalize nth out k=y at*
      obtain⟨ta,wa⟩:=y
      generalize hx:nth l i=x at*
      obtain⟨tb,wb⟩:=x
      simp only at s1 s2 ls e3 e4 hp
      refine⟨?_,by simp⟩
      simp(disch:=omega)only[go_sem,K.kP,↓reduceIte,reduceAdd,reduceSub,e1,e2,e3,e4,hx,ls,hp]
      done
    · simp(disch:=omega)only[go_sem,K.kP,↓reduceIte,reduceAdd,reduceSub]
   rw[key]
   unfold je
   cases (List.range out.length).find? (fun k=> !um (nth out k).tags (nth l i).tags)<;>rfl
theorem Y0(l:List World)(i:Nat)(hi:i<l.length)(out:List World)(ho:out.length≤1000000)(hso:∀x∈out,x.sz)(hsx:(nth l i).sz)(H:aq)(id:Nat)(es:List D)(fa fb:Nat→Nat)
 (hr:Rp H id es fa fb out) (k:Nat) (hk:k<out.length) (a:D):
 exS aH K.yd ⟨[.t (.sl (l.map World.e)),a,.ref id 0 out.length,I i,I k,I 0],H⟩=
 some (.exit 4,⟨[.t (.sl (l.map World.e)),.und,.ref id 0 out.length,I i,I k,I ((min (nth out k).whr.length (nth l i).whr.length:Nat):Int)],H.set (fb k) (.arr 2 false 0 (whs (D0 (nth out k).whr (nth l i).whr)))⟩):=by
 have e1:=hr.arr
 have e2:=hr.len
 have e3:=hr.el k hk
 have e5:=hr.hb k hk
 have e6:=hr.nb k hk
 have e7:=nu e5
 obtain⟨s1,s2,s3⟩:=hso _ (ai hk)
 obtain⟨x1,x2,x3⟩:=hsx
 generalize nth out k=y at*
 obtain⟨ta,wa⟩:=y
 generalize hx:nth l i=x at*
 obtain⟨tb,wb⟩:=x
 simp only at s1 s2 s3 x1 x2 x3 e3 e5 ⊢
 have jl:=q6 wa wb
 have q1:∀o,(H.set (fb k) o)[id]?=H[id]?:=fun o=>fv e6
 have q2:∀o,(H.set (fb k) o)[fb k]?=some o:=fun o=>lK e7
 refine bz (fun p=>⟨[.t (.sl (l.map World.e)),.und,.ref id 0 out.length,I i,I k,I p],H.set (fb k) (.arr 2 false 0 (whs (nT wa wb p)))⟩) (min wa.length wb.length) ?_ ?_ ?_ (by simp)
 · show(⟨_,H⟩:St)=⟨_,H.set (fb k) (.arr 2 false 0 (whs wa))⟩
   rw[pJ e5];rfl
 · intro p hp
   have jp:=jl p
   have jn:=G5 wa wb p p (aLs _)
   have jo:=XM (nth wa p) (nth wb p) (s3 _ (ai (by omega)))
   have hj:nT wa wb (p+1)=(nT wa wb p).set p (qg (nth wa p) (nth wb p)).1:=rfl
   rw[hj]
   generalize nT wa wb p=J at*
   generalize hu:nth wb p=u at*
   generalize nth wa p=w at*
   generalize qg w u=r at*
   obtain⟨⟨rt,rf⟩,re⟩:=r
   simp only at jo ⊢
   simp(disch:=omega)only[go_sem,K.m9,↓reduceIte,reduceAdd,reduceSub,q1,q2,e1,e2,e3,zw,hx,hu,jn,jo]
 · have jp:=jl (min wa.length wb.length)
   have hj:D0 wa wb=nT wa wb (min wa.length wb.length):=rfl
   rw[hj]
   generalize nT wa wb (min wa.length wb.length)=J at*
   by_cases c:wa.length≤wb.length
   · simp(disch:=omega)only[go_sem,K.m9,↓reduceIte,reduceAdd,reduceSub,q1,q2,e1,e2,e3,zw,hx,Nat.min_eq_left c]
   · have hm:min wa.length wb.length=wb.length:=by omega
     simp(disch:=omega)only[go_sem,K.m9,↓reduceIte,reduceAdd,reduceSub,q1,q2,e1,e2,e3,zw,hx,hm]
theorem As{sz:Nat}{l:List D}(h:∀e∈l,e.cells.length=sz):fk sz l=true:=by
 cases l with
 | nil=>rfl
 | cons d r=>rw[EI,gY];exact h d List.mem_cons_self
theorem Rp.size{H:aq}{id:Nat}{es:List D}{fa fb:Nat→Nat}{out:List World}(hr:Rp H id es fa fb out):∀e∈es,e.cells.length=2:=by
 intro e he
 obtain⟨j,hj⟩:=aLf.1 he
 have hl:=(aLe.1 hj).1
 rw[hr.el j (by rw[← hr.len];exact hl)]at hj
 cases hj;rfl
theorem PV{α:Type}(l:List α)(k:Nat)(hk:k≤l.length)(x:α)(j:Nat):(l.take k++[x]++l.drop k)[j]?=if j<k then l[j]? else if j=k then some x else l[j-1]?:=by
 have hl:(l.take k).length=k:=by rw[List.length_take];omega
 rw[List.append_assoc]
 by_cases h1:j<k
 · rw[if_pos h1,aLg (by omega),List.getElem?_take_of_lt h1]
 · rw[if_neg h1,aLh (by omega),hl]
   by_cases h2:j=k
   · rw[if_pos h2,h2,Nat.sub_self];rfl
   · rw[if_neg h2,aLh (by simp;omega)]
     simp only[List.length_singleton,List.getElem?_drop]
     congr 1;omega
theorem Ji{α:Type} [Dat α](l:List α)(k:Nat)(hk:k≤l.length)(x:α)(j:Nat):nth (l.take k++[x]++l.drop k) j=if j<k then nth l j else if j=k then x else nth l (j-1):=by
 unfold nth
 rw[aLl,PV l k hk]
 split
 · rw[aLl]
 · split
   · rfl
   · rw[aLl]
theorem Cq{α:Type} [Dat α](l:List α)(k:Nat)(hk:k<l.length)(x:α)(j:Nat):nth (l.set k x) j=if j=k then x else nth l j:=by
 unfold nth
 rw[aLl]
 by_cases h:j=k
 · rw[if_pos h,h,aLj hk];rfl
 · rw[if_neg h,aLi (fun e=>h e.symm),aLl]
theorem Rp.ins{H:aq}{id:Nat}{es:List D}{fa fb:Nat→Nat}{out:List World}(hr:Rp H id es fa fb out){k:Nat}(hk:k≤out.length)(x:World)(o:Obj):
 Rp (H++[.arr 2 false 0 (es.take k++[.agg [.ref (H.length+1) 0 x.tags.length,.ref (H.length+2) 0 x.whr.length]]++es.drop k),.arr 1 false 0 (ints x.tags),.arr 2 false 0 (whs x.whr),o]) H.length
  (es.take k++[.agg [.ref (H.length+1) 0 x.tags.length,.ref (H.length+2) 0 x.whr.length]]++es.drop k)
  (fun j=>if j<k then fa j else if j=k then H.length+1 else fa (j-1)) (fun j=>if j<k then fb j else if j=k then H.length+2 else fb (j-1)) (out.take k++[x]++out.drop k):=by
 have ol:(out.take k++[x]++out.drop k).length=out.length+1:=by
  rw[aLv,aLv,List.length_take,List.length_drop,List.length_singleton];omega
 have e2:=hr.len
 have ba:∀j,j<out.length→fa j<H.length:=fun j hj=>nu (hr.ha j hj)
 have bb:∀j,j<out.length→fb j<H.length:=fun j hj=>nu (hr.hb j hj)
 refine⟨lJ,?_,?_,?_,?_,?_,?_,?_,?_⟩
 · rw[ol,aLv,aLv,List.length_take,List.length_drop,List.length_singleton];omega
 · intro j hj
   rw[ol]at hj
   simp only[PV es k (by omega),Ji out k hk]
   by_cases h1:j<k
   · simp only[if_pos h1];exact hr.el j (by omega)
   · by_cases h2:j=k
     · simp only[if_neg h1,if_pos h2]
     · simp only[if_neg h1,if_neg h2];exact hr.el (j-1) (by omega)
 · intro j hj
   rw[ol]at hj
   simp only[Ji out k hk]
   by_cases h1:j<k
   · simp only[if_pos h1];rw[kQ (ba j (by omega))];exact hr.ha j (by omega)
   · by_cases h2:j=k
     · simp only[if_neg h1,if_pos h2];rw[jK];rfl
     · simp only[if_neg h1,if_neg h2];rw[kQ (ba (j-1) (by omega))];exact hr.ha (j-1) (by omega)
 · intro j hj
   rw[ol]at hj
   simp only[Ji out k hk]
   by_cases h1:j<k
   · simp only[if_pos h1];rw[kQ (bb j (by omega))];exact hr.hb j (by omega)
   · by_cases h2:j=k
     · simp only[if_neg h1,if_pos h2];rw[jK];rfl
     · simp only[if_neg h1,if_neg h2];rw[kQ (bb (j-1) (by omega))];exact hr.hb (j-1) (by omega)
 · intro j hj
   rw[ol]at hj
   have b1:=ba j
   have b2:=ba (j-1)
   split
   · have:=b1 (by omega);omega
   · split
     · omega
     · have:=b2 (by omega);omega
 · intro j hj
   rw[ol]at hj
   have b1:=bb j
   have b2:=bb (j-1)
   split
   · have:=b1 (by omega);omega
   · split
     · omega
     · have:=b2 (by omega);omega
 · intro i j hi hj
   rw[ol]at hi hj
   have a1:=ba i
   have a2:=ba (i-1)
   have b1:=bb j
   have b2:=bb (j-1)
   by_cases h1:i<k
   · rw[if_pos h1]
     have:=a1 (by omega)
     by_cases h2:j<k
     · rw[if_pos h2];exact hr.nab i j (by omega) (by omega)
     · rw[if_neg h2]
       by_cases h3:j=k
       · rw[if_pos h3];omega
       · rw[if_neg h3];exact hr.nab i (j-1) (by omega) (by omega)
   · rw[if_neg h1]
     by_cases h4:i=k
     · rw[if_pos h4]
       split
       · have:=b1 (by omega);omega
       · split
         · omega
         · have:=b2 (by omega);omega
     · rw[if_neg h4]
       have:=a2 (by omega)
       by_cases h2:j<k
       · rw[if_pos h2];exact hr.nab (i-1) j (by omega) (by omega)
       · rw[if_neg h2]
         by_cases h3:j=k
         · rw[if_pos h3];omega
         · rw[if_neg h3];exact hr.nab (i-1) (j-1) (by omega) (by omega)
 · intro i j hi hj hne
   rw[ol]at hi hj
   have a1:=bb i
   have a2:=bb (i-1)
   have b1:=bb j
   have b2:=bb (j-1)
   by_cases h1:i<k
   · rw[if_pos h1]
     have:=a1 (by omega)
     by_cases h2:j<k
     · rw[if_pos h2];exact hr.nbb i j (by omega) (by omega) hne
     · rw[if_neg h2]
       by_cases h3:j=k
       · rw[if_pos h3];omega
       · rw[if_neg h3];exact hr.nbb i (j-1) (by omega) (by omega) (by omega)
   · rw[if_neg h1]
     by_cases h4:i=k
     · rw[if_pos h4]
       split
       · have:=b1 (by omega);omega
       · split
         · omega
         · have:=b2 (by omega);omega
     · rw[if_neg h4]
       have:=a2 (by omega)
       by_cases h2:j<k
       · rw[if_pos h2];exact hr.nbb (i-1) j (by omega) (by omega) (by omega)
       · rw[if_neg h2]
         by_cases h3:j=k
         · rw[if_pos h3];omega
         · rw[if_neg h3];exact hr.nbb (i-1) (j-1) (by omega) (by omega) (by omega)
theorem Rp.merge{H:aq}{id:Nat}{es:List D}{fa fb:Nat→Nat}{out:List World}(hr:Rp H id es fa fb out){k:Nat}(hk:k<out.length)(x:World)(ht:(nth out k).tags=x.tags)(hw:x.whr.length=(nth out k).whr.length):
 Rp (H.set (fb k) (.arr 2 false 0 (whs x.whr))) id es fa fb (out.set k x):=by
 have ol:(out.set k x).length=out.length:=List.length_set
 have nk:=hr.nb k hk
 have kl:=nu (hr.hb k hk)
 refine⟨by rw[fv nk];exact hr.arr,by rw[ol];exact hr.len,?_,?_,?_,by rw[ol];exact hr.na,by rw[ol];exact hr.nb,by rw[ol];exact hr.nab,by rw[ol];exact hr.nbb⟩
 · intro j hj
   rw[ol]at hj
   rw[hr.el j hj,Cq out k hk]
   by_cases h:j=k
   · rw[if_pos h,h,ht,hw]
   · rw[if_neg h]
 · intro j hj
   rw[ol]at hj
   rw[fv (fun e=>hr.nab j k hj hk e.symm),hr.ha j hj,Cq out k hk]
   by_cases h:j=k
   · rw[if_pos h,h,ht]
   · rw[if_neg h]
 · intro j hj
   rw[ol]at hj
   rw[Cq out k hk]
   by_cases h:j=k
   · rw[if_pos h,h,lK kl]
   · rw[if_neg h,fv (fun e=>hr.nbb j k hj hk h e.symm)];exact hr.hb j hj
theorem Mw(l:List World)(i:Nat)(hi:i<l.length)(hl:l.length≤1000000)(out:List World)(ho:out.length≤999999)(hso:∀x∈out,x.sz)(hsx:(nth l i).sz)(H:aq)(v:D)(hr:Rep H v out):
 ∃v' H',gp false [1,4,5] H.length (exS aH K.fP ⟨[.t (.sl (l.map World.e)),.und,v,I i,.und,.und],H⟩)=some ⟨[.t (.sl (l.map World.e)),.und,v',I (i+1),.und,.und],H'⟩∧Rep H' v' (sr out (nth l i)):=by
 have l2:=YZ l i hi out (by omega) hso hsx H v hr
 have kl:=EN out (nth l i)
 have cw:=my (nth l i) hsx
 rcases hr with⟨rfl,rfl⟩ | ⟨id,es,fa,fb,rfl,h0,hr⟩
 · have k0:je [] (nth l i)=0:=rfl
   rw[k0]at l2
   have t1:sr [] (nth l i)=[nth l i]:=rfl
   rw[t1]
   generalize hx:nth l i=x at*
   obtain⟨tb,wb⟩:=x
   simp only at cw
   have run:gp false [1,4,5] H.length (exS aH K.fP ⟨[.t (.sl (l.map World.e)),.und,.nil,I i,.und,.und],H⟩)=
    some ⟨[.t (.sl (l.map World.e)),.und,.ref H.length 0 1,I (i+1),.und,.und],H++[.arr 2 false 0 [.agg [.ref (H.length+1) 0 tb.length,.ref (H.length+2) 0 wb.length]],.arr 1 false 0 (ints tb),.arr 2 false 0 (whs wb),.arr 2 false 0 [.agg [.ref (H.length+1) 0 tb.length,.ref (H.length+2) 0 wb.length]]]⟩:=by
    simp(disch:=omega)only[go_sem,K.fP,↓reduceIte,reduceAdd,reduceSub,l2,hx,cw,lJ,jK,oI,vn,Nat.add_assoc]
   refine⟨_,_,run,.inr ⟨H.length,_,fun _=>H.length+1,fun _=>H.length+2,rfl,by simp,⟨lJ,rfl,?_,?_,?_,?_,?_,?_,?_⟩⟩⟩
   all_goals skip
   · intro j hj;obtain rfl:j=0:=by simpa using hj
     rfl
   · intro j hj;obtain rfl:j=0:=by simpa using hj
     rw[jK];rfl
   · intro j hj;obtain rfl:j=0:=by simpa using hj
     rw[jK];rfl
   · intro j hj;omega
   · intro j hj;omega
   · intro i j hi hj;omega
   · intro i j hi hj hne
     have h1:i=0:=by simpa using hi
     have h2:j=0:=by simpa using hj
     omega
 · have e1:=hr.arr
   have e2:=hr.len
   have e7:=nu e1
   by_cases c:je out (nth l i)<out.length∧(nth out (je out (nth l i))).tags=(nth l i).tags
   · obtain⟨ck,ct⟩:=c
     have l3:=Y0 l i hi out (by omega) hso hsx H id es fa fb hr (je out (nth l i)) ck
     have s1:=(hso _ (ai ck)).1
     have sm:=I0 (nth out (je out (nth l i))).tags (nth l i).tags (by omega)
     have t1:sr out (nth l i)=out.set (je out (nth l i)) ⟨(nth l i).tags,D0 (nth out (je out (nth l i))).whr (nth l i).whr⟩:=by unfold sr;rw[if_pos ⟨ck,ct⟩]
     rw[t1]
     simp only[ct,decide_true]at sm
     generalize je out (nth l i)=k at*
     have e3:=hr.el k ck
     have e4:=hr.ha k ck
     have mg:=hr.merge ck ⟨(nth l i).tags,D0 (nth out k).whr (nth l i).whr⟩ ct (q6 _ _ _)
     refine⟨.ref id 0 out.length,_,?_,.inr ⟨id,es,fa,fb,by rw[List.length_set],by rw[List.length_set];omega,mg⟩⟩
     generalize nth out k=y at*
     obtain⟨ta,wa⟩:=y
     simp only at ct
     subst ct
     generalize hx:nth l i=x at*
     obtain⟨tb,wb⟩:=x
     simp only at s1 sm e3 e4 cw l3 ⊢
     simp(disch:=omega)only[go_sem,K.fP,↓reduceIte,reduceAdd,reduceSub,l2,l3,hx,cw,sm,e1,e2,e3,e4]
   · have t1:sr out (nth l i)=out.take (je out (nth l i))++[nth l i]++out.drop (je out (nth l i)):=by unfold sr;rw[if_neg c]
     rw[t1]
     generalize je out (nth l i)=k at*
     have hs1:fk 2 (es.take k)=true:=As fun e he=>hr.size e (List.mem_of_mem_take he)
     have hs2:fk 2 (es.drop k)=true:=As fun e he=>hr.size e (List.mem_of_mem_drop he)
     have hs3:(es.drop k).take (out.length-k)=es.drop k:=List.take_of_length_le (by simp[e2])
     have hs4:(es.take k).length=k:=by rw[List.length_take];omega
     have hs5:(es.drop k).length=out.length-k:=by rw[List.length_drop,e2]
     have hs6:k+(1+(out.length-k))=out.length+1:=by omega
     have s2:=hsx.1
     have run:gp false [1,4,5] H.length (exS aH K.fP ⟨[.t (.sl (l.map World.e)),.und,.ref id 0 out.length,I i,.und,.und],H⟩)=
      some ⟨[.t (.sl (l.map World.e)),.und,.ref H.length 0 (out.length+1),I (i+1),.und,.und],H++[.arr 2 false 0 (es.take k++[.agg [.ref (H.length+1) 0 (nth l i).tags.length,.ref (H.length+2) 0 (nth l i).whr.length]]++es.drop k),.arr 1 false 0 (ints (nth l i).tags),.arr 2 false 0 (whs (nth l i).whr),.arr 2 false 0 [.agg [.ref (H.length+1) 0 (nth l i).tags.length,.ref (H.length+2) 0 (nth l i).whr.length]]]⟩:=by
      by_cases ck:k<out.length
      · have s1:=(hso _ (ai ck)).1
        have sm:=I0 (nth out k).tags (nth l i).tags (by omega)
        have ct:¬(nth out k).tags=(nth l i).tags:=fun h=>c ⟨ck,h⟩
        have e3:=hr.el k ck
        have e4:=hr.ha k ck
        generalize nth out k=y at*
        obtain⟨ta,wa⟩:=y
        generalize hx:nth l i=x at*
        obtain⟨tb,wb⟩:=x
        simp only at s1 s2 sm e3 e4 ct cw
        simp only[ct,decide_false]at sm
        simp(disch:=omega)only[go_sem,K.fP,↓reduceIte,reduceAdd,reduceSub,l2,hx,cw,sm,e1,e2,e3,e4,hs1,hs2,hs3,hs4,hs5,hs6,kQ,lJ,jK,oI,vn,Nat.add_assoc,Nat.sub_zero]
      · have ek:k=out.length:=by omega
        subst ek
        generalize hx:nth l i=x at*
        obtain⟨tb,wb⟩:=x
        simp only at s2 cw
        simp(disch:=omega)only[go_sem,K.fP,↓reduceIte,reduceAdd,reduceSub,l2,hx,cw,e1,e2,hs1,hs2,hs3,hs4,hs5,hs6,kQ,lJ,jK,oI,vn,Nat.add_assoc,Nat.sub_zero]
     exact⟨_,_,run,.inr ⟨H.length,_,_,_,by rw[aLv,aLv,List.length_take,List.length_drop,List.length_singleton,Nat.min_eq_left kl];congr 1;omega,by rw[aLv,aLv,List.length_singleton];omega,hr.ins kl (nth l i) _⟩⟩
theorem yA(out:List World)(x:World):(sr out x).length≤out.length+1∧out.length≤(sr out x).length∧1≤(sr out x).length:=by
 have kl:=EN out x
 unfold sr
 split
 · rename_i h
   rw[List.length_set];omega
 · rw[aLv,aLv,List.length_take,List.length_drop,List.length_singleton];omega
theorem G6(l:List World):∀j,(uu l j).length≤j
 | 0=>aLs _
 | j+1=>by
   have:=G6 l j
   have:=(yA (uu l j) (nth l j)).1
   simp only[uu];omega
theorem PW(a b:Wh):(qg a b).1.frm.length≤a.frm.length:=by
 unfold qg
 split
 · simp only[pQ];omega
 · simp
theorem KW(a b:List Wh)(n:Nat)(h:∀w∈a,w.frm.length≤n):∀p,p≤a.length→∀w∈nT a b p,w.frm.length≤n
 | 0,_,w,hw=>h w hw
 | p+1,hp,w,hw=>by
   simp only[nT]at hw
   rcases aLk hw with hw | rfl
   · exact KW a b n h p (by omega) w hw
   · exact Nat.le_trans (PW _ _) (h _ (ai (by omega)))
theorem Th{out:List World}{x:World}(ho:∀y∈out,y.sz)(hx:x.sz):∀y∈sr out x,y.sz:=by
 intro y hy
 unfold sr at hy
 split at hy
 · rename_i h
   rcases aLk hy with hy | rfl
   · exact ho y hy
   · obtain⟨s1,s2,s3⟩:=ho _ (ai h.1)
     refine⟨hx.1,?_,?_⟩
     · show(nT _ _ _).length≤_
       rw[q6];exact s2
     · exact KW _ _ _ s3 _ (Nat.min_le_left _ _)
 · rcases List.mem_append.1 hy with hy | hy
   · rcases List.mem_append.1 hy with hy | hy
     · exact ho y (List.mem_of_mem_take hy)
     · rw[List.mem_singleton.1 hy];exact hx
   · exact ho y (List.mem_of_mem_drop hy)
theorem KX{l:List World}(hl:∀x∈l,x.sz):∀j,j≤l.length→∀y∈uu l j,y.sz
 | 0,_,y,hy=>by simp[uu]at hy
 | j+1,h,y,hy=>Th (KX hl j (by omega)) (hl _ (ai (by omega))) y hy
theorem Rp.frz{H:aq}{id:Nat}{es:List D}{fa fb:Nat→Nat}{out:List World}(hr:Rp H id es fa fb out):
 cg (frz H 8) es=some (out.map World.e)∧∀i∈es.flatMap (gI H 8),i≠id:=by
 have hl:=hr.len
 have key:∀(j:Nat) (hj:j<out.length),Go.Ev.frz H 8 (.agg [.ref (fa j) 0 (nth out j).tags.length,.ref (fb j) 0 (nth out j).whr.length])=some (nth out j).e∧
  gI H 8 (.agg [.ref (fa j) 0 (nth out j).tags.length,.ref (fb j) 0 (nth out j).whr.length])=[fa j,fb j]:=by
  intro j hj
  have h1:=hr.ha j hj
  have h2:=hr.hb j hj
  simp(disch:=omega)only[go_sem,h1,h2,ints,whs,↓reduceIte]
 constructor
 · have:∀(es:List D) (ts:List T),es.length=ts.length→(∀(j:Nat) e t,es[j]?=some e→ts[j]?=some t→Go.Ev.frz H 8 e=some t)→cg (Go.Ev.frz H 8) es=some ts:=by
    intro es
    induction es with
    | nil=>intro ts h _;cases ts with
      | nil=>rfl
      | cons=>simp at h
    | cons e es ih=>
      intro ts h hh
      cases ts with
      | nil=>simp at h
      | cons t ts=>
        have h1:=hh 0 e t rfl rfl
        have h2:=ih ts (by simpa using h) fun j e t he ht=>hh (j+1) e t (by simpa using he) (by simpa using ht)
        simp only[cg,h1,aLq,h2,aLw]
   refine this es _ (by rw[List.length_map,hl]) fun j e t he ht=>?_
   have hj:j<out.length:=by rw[← hl];exact(aLe.1 he).1
   rw[hr.el j hj]at he
   rw[bR _ hj]at ht
   cases he;cases ht
   exact(key j hj).1
 · intro i hi
   obtain⟨e,he,hi⟩:=List.mem_flatMap.1 hi
   obtain⟨j,hj⟩:=aLf.1 he
   have hjl:j<out.length:=by rw[← hl];exact(aLe.1 hj).1
   rw[hr.el j hjl]at hj
   cases hj
   rw[(key j hjl).2]at hi
   simp only[List.mem_cons,List.not_mem_nil,or_false]at hi
   rcases hi with rfl | rfl
   · exact hr.na j hjl
   · exact hr.nb j hjl
theorem Y1(l:List World)(h0:1≤l.length)(hl:l.length≤100000)(hs:∀x∈l,x.sz):
 aH 1 N.jF [.t (.sl (l.map World.e))] []=some (.ref 0 0 (C5 l).length,[.arr 2 false 0 (((C5 l).map World.e).map .t)]):=by
 refine av K.tV rfl ?_
 have loop:∀a b c:D,∃q,exS aH K.ye ⟨[.t (.sl (l.map World.e)),a,.nil,I 0,b,c],[]⟩=some q∧∃v H,q=(.exit 0,⟨[.t (.sl (l.map World.e)),.und,v,I l.length,.und,.und],H⟩)∧Rep H v (C5 l):=by
  intro a b c
  refine Bf (fun j st=>∃v H,st=⟨[.t (.sl (l.map World.e)),.und,v,I j,.und,.und],H⟩∧Rep H v (uu l j)) l.length _ ⟨.nil,[],rfl,.inl ⟨rfl,rfl⟩⟩ ?_ ?_
  · rintro j st hj ⟨v,H,rfl,hr⟩
    have ln:=G6 l j
    obtain⟨v',H',h1,h2⟩:=Mw l j hj (by omega) (uu l j) (by omega) (KX hs j (by omega)) (hs _ (ai hj)) H v hr
    exact⟨_,h1,v',H',rfl,h2⟩
  · rintro st ⟨v,H,rfl,hr⟩
    refine⟨(.exit 0,⟨[.t (.sl (l.map World.e)),.und,v,I l.length,.und,.und],H⟩),?_,by simp,v,H,rfl,hr⟩
    simp(disch:=omega)only[go_sem,K.fP,↓reduceIte,reduceAdd,reduceSub]
 obtain⟨q,hq,v,H,rfl,hr⟩:=loop .nil .und .und
 have nz:1≤(C5 l).length:=by
  unfold C5
  cases hn:l.length with
  | zero=>omega
  | succ n=>exact(yA _ _).2.2
 rcases hr with⟨rfl,he⟩ | ⟨id,es,fa,fb,rfl,h0,hr⟩
 · rw[he]at nz;simp at nz
 · obtain⟨f1,f2⟩:=hr.frz
   have fin:=I5 H id 2 (C5 l).length es _ hr.arr hr.len.symm f1 f2
   simp(disch:=omega)only[go_sem,K.jF,↓reduceIte,reduceAdd,reduceSub,hq,fin]
@[go_sem] theorem VH {α β γ : Type} [Dat α] (f : β → γ) (g : α → β) {l : List α} {i j : Nat} {x : α} (h : j < l.length) : (((l.set i x).map g).map f)[j]? = some (f (g (nth (l.set i x) j))) := KB f g (by rw [List.length_set]; exact h)
def Mx(l:List Int)(i j:Nat):List Int:=(l.set i (nth l j)).set j (nth l i)
def xj(i j:Nat)(t:Int)(x:World):World:=⟨Mx x.tags i j,(x.whr.set i (n9 (nth x.whr i) t).1).set j (n9 (nth x.whr j) t).1⟩
def Cr(i j:Nat)(t:Int)(x:World)(out:List World):List World:=if Tg (nth x.whr i) (nth x.whr j) t=true then out++[xj i j t x]else out
def j3(i j:Nat)(t:Int)(ws:List World):Nat→List World
 | 0=>ws
 | k+1=>Cr i j t (nth ws k) (j3 i j t ws k)
def ph(m:aC)(b:Bel)(i j t:Int):Bel×Int:=
 if qV m b=false then(b,6)else if i<0∨((nth b.ao 0).tags.length:Int)≤i∨j<0∨((nth b.ao 0).tags.length:Int)≤j∨i=j then(b,19)
 else if ¬inT t then(b,8)else if 24<(C5 (j3 i.toNat j.toNat t b.ao b.ao.length)).length then(b,44)else(⟨C5 (j3 i.toNat j.toNat t b.ao b.ao.length)⟩,0)
theorem PX(i j:Nat)(t:Int)(x:World)(out:List World):out.length≤(Cr i j t x out).length∧(Cr i j t x out).length≤out.length+1:=by
 unfold Cr;split<;>(try rw[aLv,List.length_singleton])<;>omega
theorem vw(i j:Nat)(t:Int)(ws:List World):∀k,ws.length≤(j3 i j t ws k).length∧(j3 i j t ws k).length≤ws.length+k
 | 0=>⟨aLs _,aLs _⟩
 | k+1=>by
   have h1:=vw i j t ws k
   have h2:=PX i j t (nth ws k) (j3 i j t ws k)
   simp only[j3];omega
abbrev exH(m:aC)(ws out:List World):aq:=[.box (ae m),.box [.t (.sl (ws.map World.e))],.box [.nil],.arr 2 false 0 ((out.map World.e).map .t)]
theorem My(m:aC)(ws:List World)(hw:ws.length≤100000)(i j:Nat)(hij:i≠j)(t:Int)(k:Nat)(hk:k<ws.length)(hs:(nth ws k).sz)
 (i1:i<(nth ws k).tags.length) (j1:j<(nth ws k).tags.length) (hl:(nth ws k).whr.length=(nth ws k).tags.length) (out:List World) (ho:out.length≤1000000):
 gp true [0,1,5,8,9,12] 4 (exS aH K.iz ⟨[.und,.und,I i,I j,I t,.und,.bp 1 0,.bp 2 0,.und,.und,.ref 3 0 out.length,I k,.und],exH m ws out⟩)=
  some ⟨[.und,.und,I i,I j,I t,.und,.bp 1 0,.bp 2 0,.und,.und,.ref 3 0 (Cr i j t (nth ws k) out).length,I (k+1),.und],exH m ws (Cr i j t (nth ws k) out)⟩:=by
 have c1:=my (nth ws k) hs
 have mt:=YW (nth (nth ws k).whr i) (nth (nth ws k).whr j) t (hs.2.2 _ (ai (by omega)))
 have r1:=KG (nth (nth ws k).whr i) t (hs.2.2 _ (ai (by omega)))
 have r2:=KG (nth (nth ws k).whr j) t (hs.2.2 _ (ai (by omega)))
 unfold Cr xj Mx
 have n1:∀w,nth ((nth ws k).whr.set i w) j=nth (nth ws k).whr j:=fun w=>by rw[Cq _ _ (by omega),if_neg (fun e=>hij e.symm)]
 generalize hx:nth ws k=x at*
 obtain⟨tags,whr⟩:=x
 obtain⟨s1,s2,s3⟩:=hs
 simp only at*
 generalize hwi:nth whr i=wi at*
 generalize hwj:nth whr j=wj at*
 generalize n9 wi t=ri at*
 obtain⟨⟨t1,f1⟩,e1⟩:=ri
 generalize n9 wj t=rj at*
 obtain⟨⟨t2,f2⟩,e2⟩:=rj
 obtain⟨ti,fi⟩:=wi
 obtain⟨tj,fj⟩:=wj
 simp only at*
 cases hm:Tg ⟨ti,fi⟩ ⟨tj,fj⟩ t with
 | true=>
   rw[hm]at mt
   simp(disch:=omega)only[go_sem,K.iz,↓reduceIte,exH,hx,hwi,hwj,n1,c1,mt,r1,r2,reduceAdd,reduceSub]
 | false=>
   rw[hm]at mt
   simp(disch:=omega)only[go_sem,K.iz,↓reduceIte,exH,hx,hwi,hwj,n1,c1,mt,r1,r2,reduceAdd,reduceSub,aLt]
theorem vz(w:Wh)(t:Int):(n9 w t).1.frm=w.frm:=by unfold n9;split<;>rfl
theorem Ti{i j:Nat}{t:Int}{x:World}(h:x.sz)(hi:i<x.whr.length)(hj:j<x.whr.length):(xj i j t x).sz:=by
 obtain⟨s1,s2,s3⟩:=h
 refine⟨by simpa [xj,Mx]using s1,by simpa [xj]using s2,fun w hw=>?_⟩
 simp only[xj]at hw
 rcases aLk hw with hw | rfl
 · rcases aLk hw with hw | rfl
   · exact s3 w hw
   · rw[vz];exact s3 _ (ai hi)
 · rw[vz];exact s3 _ (ai hj)
theorem Cs{ws:List World}(h:∀x∈ws,x.sz){i j:Nat}{t:Int}(hi:∀k,k<ws.length→i<(nth ws k).whr.length)(hj:∀k,k<ws.length→j<(nth ws k).whr.length):∀k,k≤ws.length→∀x∈j3 i j t ws k,x.sz
 | 0,_,x,hx=>h x hx
 | k+1,hk,x,hx=>by
   simp only[j3,Cr]at hx
   split at hx
   · rcases List.mem_append.1 hx with hx | hx
     · exact Cs h hi hj k (by omega) x hx
     · rw[List.mem_singleton.1 hx];exact Ti (h _ (ai (by omega))) (hi k (by omega)) (hj k (by omega))
   · exact Cs h hi hj k (by omega) x hx
theorem Mz{m:aC}(h:m.ok)(b:Bel)(hs:b.sz)(i j t:Int):
 aH 0 N.bw [.t m.e,.t b.e,I i,I j,I t] []=some (.tup [.t (ph m b i j t).1.e,I (ph m b i j t).2],[]):=by
 refine av K.nK rfl ?_
 have cb:=vo b hs
 have cb1:=I9 b hs
 have vb:=Pv h b hs
 unfold ph
 cases hb:qV m b with
 | false=>
   rw[hb]at vb
   obtain⟨ws⟩:=b
   simp(disch:=omega)only[go_sem,K.bw,↓reduceIte,cb,vb,reduceAdd,reduceSub]
 | true=>
   rw[hb]at vb
   obtain⟨w1,w2,f1,f2,w5⟩:=gH hb
   obtain⟨ws⟩:=b
   obtain⟨s1,s2⟩:=hs
   simp only at s1 s2 w1 w2 w5 f1 f2 cb cb1 vb ⊢
   have g0:(ws.map World.e)[0]?=some (nth ws 0).e:=bR _ (by omega)
   have wl:∀k,k<ws.length→(nth ws k).tags.length=(nth ws 0).tags.length∧(nth ws k).whr.length=(nth ws 0).tags.length:=fun k hk=>by
    obtain⟨q1,q2, -⟩:=kc (w5 k hk)
    exact⟨q1,q2⟩
   generalize hx:nth ws 0=x at*
   obtain⟨first,whr⟩:=x
   simp only at f1 f2 wl g0 ⊢
   rw[if_neg (by simp)]
   by_cases c1:i<0
   · rw[if_pos (by omega)]
     simp(disch:=omega)only[go_sem,K.bw,↓reduceIte,cb,vb,hx,g0,c1,reduceAdd,reduceSub]
   · by_cases c2:(first.length:Int)≤i
     · rw[if_pos (by omega)]
       simp(disch:=omega)only[go_sem,K.bw,↓reduceIte,cb,vb,hx,g0,c1,c2,reduceAdd,reduceSub]
     · by_cases c3:j<0
       · rw[if_pos (by omega)]
         simp(disch:=omega)only[go_sem,K.bw,↓reduceIte,cb,vb,hx,g0,c1,c2,c3,reduceAdd,reduceSub]
       · by_cases c4:(first.length:Int)≤j
         · rw[if_pos (by omega)]
           simp(disch:=omega)only[go_sem,K.bw,↓reduceIte,cb,vb,hx,g0,c1,c2,c3,c4,reduceAdd,reduceSub]
         · by_cases c5:i=j
           · rw[if_pos (by omega)]
             simp(disch:=omega)only[go_sem,K.bw,↓reduceIte,cb,vb,hx,g0,c1,c2,c3,c4,c5,reduceAdd,reduceSub]
           · rw[if_neg (by omega)]
             by_cases ct:inT t
             · have ct':=ct
               unfold inT at ct'
               rw[if_neg (fun h=>h ct)]
               obtain⟨i',rfl⟩:=Int.eq_ofNat_of_zero_le (show 0≤i by omega)
               obtain⟨j',rfl⟩:=Int.eq_ofNat_of_zero_le (show 0≤j by omega)
               simp only[Int.toNat_natCast]
               have ln:=vw i' j' t ws
               have loop:∀a b c d e f:D,exS aH K.qP ⟨[a,b,I i',I j',I t,c,.bp 1 0,.bp 2 0,d,e,.ref 3 0 ws.length,I 0,f],exH m ws ws⟩=
                some (.exit 0,⟨[.und,.und,I i',I j',I t,.und,.bp 1 0,.bp 2 0,.und,.und,.ref 3 0 (j3 i' j' t ws ws.length).length,I ws.length,.und],exH m ws (j3 i' j' t ws ws.length)⟩):=by
                intro a b c d e f
                refine bz (fun k=>⟨[.und,.und,I i',I j',I t,.und,.bp 1 0,.bp 2 0,.und,.und,.ref 3 0 (j3 i' j' t ws k).length,I k,.und],exH m ws (j3 i' j' t ws k)⟩) ws.length rfl ?_ ?_ (by simp)
                · intro k hk
                  obtain⟨q1,q2⟩:=wl k hk
                  have:=ln k
                  exact My m ws (by omega) i' j' (by omega) t k hk (s2 _ (ai hk)) (by omega) (by omega) (by omega) _ (by omega)
                · have:=ln ws.length
                  generalize j3 i' j' t ws ws.length=L at*
                  simp(disch:=omega)only[go_sem,K.iz,↓reduceIte,exH,reduceAdd,reduceSub]
               have ln:=ln ws.length
               have sz:=Cs (t:=t) s2 (i:=i') (j:=j') (fun k hk=>by obtain⟨q1,q2⟩:=wl k hk;omega) (fun k hk=>by obtain⟨q1,q2⟩:=wl k hk;omega) ws.length (aLs _)
               have ty:=Y1 (j3 i' j' t ws ws.length) (by omega) (by omega) sz
               generalize j3 i' j' t ws ws.length=L at*
               generalize C5 L=Z at*
               simp only[exH]at loop
               by_cases c6:24<Z.length
               · simp(disch:=omega)only[go_sem,K.bw,↓reduceIte,cb,cb1,vb,hx,g0,c1,c2,c3,c4,c5,c6,loop,ty,reduceAdd,reduceSub]
               · simp(disch:=omega)only[go_sem,K.bw,↓reduceIte,cb,cb1,vb,hx,g0,c1,c2,c3,c4,c5,c6,loop,ty,reduceAdd,reduceSub]
             · rw[if_pos ct]
               unfold inT at ct
               by_cases c6:t<0
               · simp(disch:=omega)only[go_sem,K.bw,↓reduceIte,cb,vb,hx,g0,c1,c2,c3,c4,c5,c6,reduceAdd,reduceSub]
               · simp(disch:=omega)only[go_sem,K.bw,↓reduceIte,cb,vb,hx,g0,c1,c2,c3,c4,c5,c6,reduceAdd,reduceSub]
def sy:Nat→List Int
 | 0=>[]
 | k+1=>sy k++[3+(k:Int)*2]
def aF.nB(d:aF)(n:Int):Nat→List Int×aF
 | 0=>([],d)
 | k+1=>((d.nB n k).1++[((d.nB n k).2.next n).1],((d.nB n k).2.next n).2)
theorem mD:∀k,(sy k).length=k
 | 0=>rfl
 | k+1=>by simp[sy,mD k]
theorem aF.lL(d:aF)(n:Int):∀k,(d.nB n k).1.length=k
 | 0=>rfl
 | k+1=>by simp[aF.nB,d.lL n k]
theorem aF.pV{d:aF}(h:d.dY)(n:Int):∀k,(d.nB n k).2.dY
 | 0=>h
 | k+1=>aF.aY (aF.pV h n k) n
structure BSt where
 b:Bel
 t:Int
 d:aF
def aF.mE(m:aC)(n:Int)(s:BSt):BSt:=
 let a:=s.d.next 60
 let c:=a.2.next 3
 if c.1=0 then
  let i:=c.2.next n
  let j:=i.2.next n
  let r:=ph m s.b i.1 j.1 (s.t+a.1)
  ⟨if r.2=0 then r.1 else s.b,s.t+a.1,j.2⟩
 else if c.1=1 then
  let g:=c.2.next n
  let l:=g.2.oy m.aa.length
  let e:=l.2.next 9
  let r:=uq m s.b (3+2*g.1) l.1 (s.t+a.1) (s.t+a.1+e.1)
  ⟨if r.2=0 then r.1 else s.b,s.t+a.1,e.2⟩
 else
  let g:=c.2.next n
  let l:=g.2.oy m.aa.length
  let e:=l.2.next 40
  let r:=ur m s.b (3+2*g.1) l.1 (s.t+a.1) (s.t+a.1+50) e.1
  ⟨if r.2=0 then r.1 else s.b,s.t+a.1,e.2⟩
def aF.zC(m:aC)(n:Int)(s:BSt):Nat→BSt
 | 0=>s
 | k+1=>aF.mE m n (aF.zC m n s k)
def aF.qo(d:aF):Nat:=(1+(d.next 3).1).toNat
def aF.oa(d:aF)(m:aC):List Int×aF:=(d.next 3).2.nB m.aa.length d.qo
def aF.NG(d:aF)(m:aC):BSt:=⟨(vv m (sy d.qo) (d.oa m).1 ((d.oa m).2.next 100).1).1,100,(((d.oa m).2.next 100).2.next 5).2⟩
def aF.PY(d:aF)(m:aC):Nat:=(((d.oa m).2.next 100).2.next 5).1.toNat
def aF.agP(d:aF)(m:aC):BSt:=aF.zC m d.qo (d.NG m) (d.PY m)
def aF.uv(d:aF)(m:aC):Bel×aF:=((d.agP m).b,(d.agP m).d)
structure WOk(m:aC)(N:Nat)(x:World):Prop where
 tg:x.tags.length=N
 wh:x.whr.length=N
 fr:∀w∈x.whr,w.frm.length=m.aa.length
 ti:∀w∈x.whr,inT w.time
structure BOk(m:aC)(N:Nat)(b:Bel):Prop where
 w1:1≤b.ao.length
 w2:b.ao.length≤24
 n1:1≤N
 n2:N≤12
 ws:∀x∈b.ao,WOk m N x
theorem WOk.sz{m:aC}{N:Nat}{x:World}(h:WOk m N x)(hm:m.ok)(hn:N≤12):x.sz:=by
 have np:=hm.np
 obtain⟨t1,t2,t3, -⟩:=h
 exact⟨by omega,by omega,fun w hw=>by rw[t3 w hw];omega⟩
theorem BOk.sz{m:aC}{N:Nat}{b:Bel}(h:BOk m N b)(hm:m.ok):b.sz:=
 ⟨by have:=h.w2;omega,fun x hx=>(h.ws x hx).sz hm h.n2⟩
theorem EO{m:aC}{n:Int}{s:BSt}(h:s.d.dY):(aF.mE m n s).d.dY:=by
 unfold aF.mE
 simp only
 have l1:=aF.aY h 60
 generalize s.d.next 60=a at*
 obtain⟨a1,d1⟩:=a
 simp only at l1 ⊢
 have l2:=aF.aY l1 3
 generalize d1.next 3=c at*
 obtain⟨c1,d2⟩:=c
 simp only at l2 ⊢
 split
 · exact aF.aY (aF.aY l2 n) n
 · split
   · exact aF.aY (aF.mV (aF.aY l2 n) _) 9
   · exact aF.aY (aF.mV (aF.aY l2 n) _) 40
abbrev blH(m:aC)(p1 p2:Bool)(tags bY:List Int)(s:BSt):aq:=[s.d.obj,.box (ae m),.box [.nil],.arr 1 p1 0 (ints tags),.arr 1 p2 0 (ints bY),.box [.t (.sl (s.b.ao.map World.e))]]
theorem PZ{m:aC}(hm:m.ok)(n:Int)(n1:1≤n)(n2:n≤12)(tags bY:List Int)(s:BSt)(hd:s.d.dY)(hb:s.b.sz)(ht:0≤s.t)(ht2:s.t≤1000000)(k:Nat)(hk:k≤100)(p1 p2:Bool):
 gp true [1,5,6,7,11,12,13,14,15,16,17] 6 (exS aH K.bH ⟨[.bp 0 0,.und,.bp 1 0,.bp 2 0,I n,.und,.und,.und,.bp 5 0,I s.t,I (k+1),.und,.und,.und,.und,.und,.und,.und],blH m p1 p2 tags bY s⟩)=
 some ⟨[.bp 0 0,.und,.bp 1 0,.bp 2 0,I n,.und,.und,.und,.bp 5 0,I (aF.mE m n s).t,I k,.und,.und,.und,.und,.und,.und,.und],blH m p1 p2 tags bY (aF.mE m n s)⟩:=by
 obtain⟨b,t,d⟩:=s
 simp only at hd hb ht ht2
 unfold aF.mE
 simp only
 have np:=hm.np
 have h1:=iJ d 60 (by omega) hd
 have l1:=aF.aY hd 60
 have a0:=d.ff 60
 have a9:=d.fg (n:=60) (by omega)
 generalize d.next 60=a at*
 obtain⟨x1,d1⟩:=a
 simp only at h1 l1 a0 a9 ⊢
 have h2:=iJ d1 3 (by omega) l1
 have l2:=aF.aY l1 3
 have c0:=d1.ff 3
 have c9:=d1.fg (n:=3) (by omega)
 generalize d1.next 3=c at*
 obtain⟨x2,d2⟩:=c
 simp only at h2 l2 c0 c9 ⊢
 have h3:=iJ d2 n (by omega) l2
 have l3:=aF.aY l2 n
 have g0:=d2.ff n
 have g9:=d2.fg (n:=n) n1
 generalize d2.next n=g at*
 obtain⟨x3,d3⟩:=g
 simp only at h3 l3 g0 g9 ⊢
 by_cases e0:x2=0
 · simp only[if_pos e0]
   have h4:=iJ d3 n (by omega) l3
   generalize d3.next n=g at*
   obtain⟨x4,d4⟩:=g
   simp only at h4 ⊢
   have ex:=Mz hm b hb x3 x4 (t+x1)
   generalize ph m b x3 x4 (t+x1)=r at*
   obtain⟨⟨ws'⟩,er⟩:=r
   obtain⟨ws⟩:=b
   simp only at ex ⊢
   subst e0
   by_cases e:er=0
   · simp(disch:=omega)only[go_sem,K.bH,↓reduceIte,blH,h1,h2,h3,h4,ex,e,reduceAdd,reduceSub]
   · simp(disch:=omega)only[go_sem,K.bH,↓reduceIte,blH,h1,h2,h3,h4,ex,e,reduceAdd,reduceSub]
 · simp only[if_neg e0]
   have h4:=OY d3 m.aa.length (by omega) l3
   have l4:=aF.mV l3 m.aa.length
   have ln:=d3.yi m.aa.length
   generalize d3.oy m.aa.length=q at*
   obtain⟨l,d4⟩:=q
   simp only at h4 l4 ln ⊢
   by_cases e1:x2=1
   · simp only[if_pos e1]
     have h5:=iJ d4 9 (by omega) l4
     have f0:=d4.ff 9
     have f9:=d4.fg (n:=9) (by omega)
     generalize d4.next 9=g at*
     obtain⟨x5,d5⟩:=g
     simp only at h5 f0 f9 ⊢
     have ex:=PT hm b hb (3+2*x3) l (by omega) (t+x1) (t+x1+x5)
     generalize uq m b (3+2*x3) l (t+x1) (t+x1+x5)=r at*
     obtain⟨⟨ws'⟩,er⟩:=r
     obtain⟨ws⟩:=b
     simp only at ex ⊢
     subst e1
     by_cases e:er=0
     · simp(disch:=omega)only[go_sem,K.bH,↓reduceIte,blH,h1,h2,h3,h4,h5,ex,e,reduceAdd,reduceSub]
     · simp(disch:=omega)only[go_sem,K.bH,↓reduceIte,blH,h1,h2,h3,h4,h5,ex,e,reduceAdd,reduceSub]
   · simp only[if_neg e1]
     have h5:=iJ d4 40 (by omega) l4
     have f0:=d4.ff 40
     have f9:=d4.fg (n:=40) (by omega)
     generalize d4.next 40=g at*
     obtain⟨x5,d5⟩:=g
     simp only at h5 f0 f9 ⊢
     have ex:=PU hm b hb (3+2*x3) l (by omega) (t+x1) (t+x1+50) x5
     generalize ur m b (3+2*x3) l (t+x1) (t+x1+50) x5=r at*
     obtain⟨⟨ws'⟩,er⟩:=r
     obtain⟨ws⟩:=b
     simp only at ex ⊢
     by_cases e:er=0
     · simp(disch:=omega)only[go_sem,K.bH,↓reduceIte,blH,h1,h2,h3,h4,h5,ex,e,e0,e1,reduceAdd,reduceSub]
     · simp(disch:=omega)only[go_sem,K.bH,↓reduceIte,blH,h1,h2,h3,h4,h5,ex,e,e0,e1,reduceAdd,reduceSub]
theorem G7{m:aC}(hm:m.ok){p t:Int}(p0:0≤p)(p1:p<m.aa.length)(ht:inT t):(iD m p t).2=0∧(iD m p t).1.frm.length=m.aa.length:=by
 unfold iD
 rw[if_neg (by omega),if_pos ht]
 refine⟨rfl,?_⟩
 exact lI hm t ht none (fun l h=>by cases h) (by simp) (zq (zr _) ht.1 (by have:=ht.2;omega))
theorem P0{m:aC}{p t:Int}(ht:inT t):inT (iD m p t).1.time:=by
 unfold iD
 split
 · unfold inT;simp
 · exact ht
theorem Y2{m:aC}(w:Wh)(l:List Int)(a b:Int)(hw:inT w.time):inT (C4 m w l a b).1.time:=by
 unfold C4
 split
 · exact hw
 · rename_i h
   have h0:mr m w l a b=0:=by simpa using h
   obtain⟨v1,v2,v3,v4,v5,v6⟩:=oz h0
   split
   · exact hw
   · split
     · exact v5
     · exact hw
theorem Y3{m:aC}(w:Wh)(l:List Int)(a b bl:Int)(hw:inT w.time):inT (DO m w l a b bl).1.time:=by
 unfold DO
 split
 · exact hw
 · rename_i h
   have h0:mr m w l a b=0:=by simpa using h
   obtain⟨v1,v2,v3,v4,v5,v6⟩:=oz h0
   split
   · exact hw
   · split
     · exact hw
     · split
       · exact hw
       · exact v5
theorem Tj{a b:Wh}(ha:inT a.time)(hb:inT b.time):inT (qg a b).1.time:=by
 unfold qg
 split
 · unfold inT at *;simp only;omega
 · unfold inT;simp
theorem G8{w:Wh}{t:Int}(h:inT w.time):inT (n9 w t).1.time:=by
 unfold n9
 split
 · exact h
 · unfold inT at *;simp only;omega
theorem KY(a b:List Wh)(ha:∀w∈a,inT w.time)(hb:∀w∈b,inT w.time):∀p,p≤a.length→p≤b.length→∀w∈nT a b p,inT w.time
 | 0,_,_,w,hw=>ha w hw
 | p+1,h1,h2,w,hw=>by
   simp only[nT]at hw
   rcases aLk hw with hw | rfl
   · exact KY a b ha hb p (by omega) (by omega) w hw
   · exact Tj (ha _ (ai (by omega))) (hb _ (ai (by omega)))
theorem Tk{m:aC}(hm:m.ok)(w:Wh)(l:List Int)(a b:Int)(hw:w.frm.length=m.aa.length):(C4 m w l a b).1.frm.length=m.aa.length:=by
 unfold C4
 split
 · exact hw
 · rename_i h
   have h0:mr m w l a b=0:=by simpa using h
   obtain⟨v1,v2,v3,v4,v5,v6⟩:=oz h0
   obtain⟨w1,w2,w3,w4⟩:=eM v1
   have hb:bnd w.frm:=fun x hx=>mW (w3 x hx)
   split
   · exact hw
   · split
     · refine lI hm a v4 none (fun l h=>by cases h) (rY _ _ _ _ _) (EG hb _ _ ?_ _ (aLs _))
       intro p hp
       obtain⟨j,hj⟩:=aLf.1 hp
       have hjl:=(aLe.1 hj).1
       obtain⟨q1,q2, -⟩:=rX v3 hjl
       rw[bD hj]at q1 q2
       omega
     · exact hw
theorem Tm{m:aC}(hm:m.ok)(w:Wh)(l:List Int)(a b bl:Int)(hw:w.frm.length=m.aa.length):(DO m w l a b bl).1.frm.length=m.aa.length:=by
 unfold DO
 split
 · exact hw
 · rename_i h
   have h0:mr m w l a b=0:=by simpa using h
   obtain⟨v1,v2,v3,v4,v5,v6⟩:=oz h0
   obtain⟨w1,w2,w3,w4⟩:=eM v1
   have hb:bnd w.frm:=fun x hx=>mW (w3 x hx)
   split
   · exact hw
   · split
     · exact hw
     · split
       · exact hw
       · rename_i h1 h2 h3
         have hlen:=pP v3
         have np:=hm.np
         have h1:inT bl:=by simpa using h1
         unfold inT at v4 v5 w2 h1
         have t1:inT (b-bl):=by unfold inT;omega
         have hi:∀s,some l=some s→s≠[]∧s.length≤64:=by
          intro s hs;cases hs;exact⟨v2,by omega⟩
         have ln:=yn w.frm l l.length
         have lb:=EH hb l l.length
         exact lI hm b v5 none (fun l h=>by cases h) (lI hm _ t1 _ hi (by omega) lb) (DN hm _ t1 _ hi (by omega) lb)
theorem P1{m:aC}{N:Nat}{tag:Int}{x:World}{w:Wh}(hx:WOk m N x)(hw:w.frm.length=m.aa.length)(hw2:inT w.time):WOk m N (Jf tag x w):=by
 obtain⟨t1,t2,t3,t4⟩:=hx
 refine⟨t1,by simpa [Jf]using t2,fun y hy=>?_,fun y hy=>?_⟩
 · simp only[Jf]at hy
   rcases aLk hy with hy | rfl
   · exact t3 y hy
   · exact hw
 · simp only[Jf]at hy
   rcases aLk hy with hy | rfl
   · exact t4 y hy
   · exact hw2
theorem Jj{m:aC}(hm:m.ok){N:Nat}{b:Bel}(hb:BOk m N b)(tag:Int)(l:List Int)(a c:Int):BOk m N (if(uq m b tag l a c).2=0 then(uq m b tag l a c).1 else b):=by
 split
 · rename_i h0
   unfold uq at h0 ⊢
   by_cases e0:pf m b tag=0
   · simp only[e0,ne_eq,not_true_eq_false,if_false]at h0 ⊢
     obtain⟨_,bb⟩:=Jh e0
     cases hf:(List.range b.ao.length).find? (G2 m tag l a c b.ao)with
     | some i=>simp only[hf];exact hb
     | none=>
       simp only[hf]at h0 ⊢
       split at h0
       · simp at h0
       · rename_i hl
         rw[if_neg hl]
         have ln:=yy m tag l a c b.ao b.ao.length
         refine⟨by simp only;omega,by have:=hb.w2;simp only;omega,hb.n1,hb.n2,?_⟩
         have key:∀j,j≤b.ao.length→∀x∈pg m tag l a c b.ao j,WOk m N x:=by
          intro j
          induction j with
          | zero=>intro _ x hx;simp[pg]at hx
          | succ j ih=>
            intro hj x hx
            have wj:=hb.ws _ (ai (l:=b.ao) (j:=j) (by omega))
            obtain⟨b1,b2⟩:=bb j (by omega)
            simp only[pg,G0]at hx
            split at hx
            · exact ih (by omega) x hx
            · rcases List.mem_append.1 hx with hx | hx
              · exact ih (by omega) x hx
              · rw[List.mem_singleton.1 hx]
                split
                · exact P1 wj (Tk hm _ l a c (wj.fr _ (ai (by omega)))) (Y2 _ l a c (wj.ti _ (ai (by omega))))
                · exact wj
         exact key _ (aLs _)
   · rw[if_pos e0]at h0 ⊢
     exact hb
 · exact hb
theorem Jk{m:aC}(hm:m.ok){N:Nat}{b:Bel}(hb:BOk m N b)(tag:Int)(l:List Int)(a c bl:Int):BOk m N (if(ur m b tag l a c bl).2=0 then(ur m b tag l a c bl).1 else b):=by
 split
 · rename_i h0
   unfold ur at h0 ⊢
   by_cases e0:pf m b tag=0
   · simp only[e0,ne_eq,not_true_eq_false,if_false]at h0 ⊢
     obtain⟨_,bb⟩:=Jh e0
     cases hf:(List.range b.ao.length).find? (G4 m tag l a c bl b.ao)with
     | some i=>simp only[hf];exact hb
     | none=>
       simp only[hf]
       have ln:=yz m tag l a c bl b.ao b.ao.length
       refine⟨by have:=hb.w1;simp only;omega,by have:=hb.w2;simp only;omega,hb.n1,hb.n2,?_⟩
       have key:∀j,j≤b.ao.length→∀x∈qZ m tag l a c bl b.ao j,WOk m N x:=by
        intro j
        induction j with
        | zero=>intro _ x hx;simp[qZ]at hx
        | succ j ih=>
          intro hj x hx
          have wj:=hb.ws _ (ai (l:=b.ao) (j:=j) (by omega))
          obtain⟨b1,b2⟩:=bb j (by omega)
          simp only[qZ,Jg]at hx
          rcases List.mem_append.1 hx with hx | hx
          · exact ih (by omega) x hx
          · rw[List.mem_singleton.1 hx]
            split
            · exact P1 wj (Tm hm _ l a c bl (wj.fr _ (ai (by omega)))) (Y3 _ l a c bl (wj.ti _ (ai (by omega))))
            · exact wj
       exact key _ (aLs _)
   · rw[if_pos e0]at h0 ⊢
     exact hb
 · exact hb
theorem P2{m:aC}{a b:Wh}(ha:a.frm.length=m.aa.length)(hb:b.frm.length=m.aa.length):(qg a b).1.frm.length=m.aa.length:=by
 unfold qg
 rw[if_pos (by omega)]
 simp only[pQ];exact ha
theorem KZ{m:aC}(a b:List Wh)(ha:∀w∈a,w.frm.length=m.aa.length)(hb:∀w∈b,w.frm.length=m.aa.length):∀p,p≤a.length→p≤b.length→∀w∈nT a b p,w.frm.length=m.aa.length
 | 0,_,_,w,hw=>ha w hw
 | p+1,h1,h2,w,hw=>by
   simp only[nT]at hw
   rcases aLk hw with hw | rfl
   · exact KZ a b ha hb p (by omega) (by omega) w hw
   · exact P2 (ha _ (ai (by omega))) (hb _ (ai (by omega)))
theorem MA{m:aC}{N:Nat}{out:List World}{x:World}(ho:∀y∈out,WOk m N y)(hx:WOk m N x):∀y∈sr out x,WOk m N y:=by
 intro y hy
 unfold sr at hy
 split at hy
 · rename_i h
   rcases aLk hy with hy | rfl
   · exact ho y hy
   · obtain⟨s1,s2,s3,s4⟩:=ho _ (ai h.1)
     refine⟨hx.tg,?_,KZ _ _ s3 hx.fr _ (Nat.min_le_left _ _) (Nat.min_le_right _ _),KY _ _ s4 hx.ti _ (Nat.min_le_left _ _) (Nat.min_le_right _ _)⟩
     show(nT _ _ _).length=_
     rw[q6];exact s2
 · rcases List.mem_append.1 hy with hy | hy
   · rcases List.mem_append.1 hy with hy | hy
     · exact ho y (List.mem_of_mem_take hy)
     · rw[List.mem_singleton.1 hy];exact hx
   · exact ho y (List.mem_of_mem_drop hy)
theorem D1{m:aC}{N:Nat}{l:List World}(hl:∀x∈l,WOk m N x):∀j,j≤l.length→∀y∈uu l j,WOk m N y
 | 0,_,y,hy=>by simp[uu]at hy
 | j+1,h,y,hy=>MA (D1 hl j (by omega)) (hl _ (ai (by omega))) y hy
theorem MB{m:aC}{N:Nat}{i j:Nat}{t:Int}{x:World}(h:WOk m N x)(hi:i<N)(hj:j<N):WOk m N (xj i j t x):=by
 obtain⟨s1,s2,s3,s4⟩:=h
 refine⟨by simpa [xj,Mx]using s1,by simpa [xj]using s2,fun w hw=>?_,fun w hw=>?_⟩
 · simp only[xj]at hw
   rcases aLk hw with hw | rfl
   · rcases aLk hw with hw | rfl
     · exact s3 w hw
     · rw[vz];exact s3 _ (ai (by omega))
   · rw[vz];exact s3 _ (ai (by omega))
 · simp only[xj]at hw
   rcases aLk hw with hw | rfl
   · rcases aLk hw with hw | rfl
     · exact s4 w hw
     · exact G8 (s4 _ (ai (by omega)))
   · exact G8 (s4 _ (ai (by omega)))
theorem xk{m:aC}{N:Nat}{ws:List World}(h:∀x∈ws,WOk m N x){i j:Nat}{t:Int}(hi:i<N)(hj:j<N):∀k,k≤ws.length→∀x∈j3 i j t ws k,WOk m N x
 | 0,_,x,hx=>h x hx
 | k+1,hk,x,hx=>by
   simp only[j3,Cr]at hx
   split at hx
   · rcases List.mem_append.1 hx with hx | hx
     · exact xk h hi hj k (by omega) x hx
     · rw[List.mem_singleton.1 hx];exact MB (h _ (ai (by omega))) hi hj
   · exact xk h hi hj k (by omega) x hx
theorem G9{m:aC}{N:Nat}{b:Bel}(hb:BOk m N b)(i j t:Int):BOk m N (if(ph m b i j t).2=0 then(ph m b i j t).1 else b):=by
 split
 · rename_i h0
   unfold ph at h0 ⊢
   split at h0
   · simp at h0
   · rename_i c1
     rw[if_neg c1]
     split at h0
     · simp at h0
     · rename_i c2
       rw[if_neg c2]
       split at h0
       · simp at h0
       · rename_i c3
         rw[if_neg c3]
         split at h0
         · simp at h0
         · rename_i c4
           rw[if_neg c4]
           have t0:=(hb.ws _ (ai (l:=b.ao) (j:=0) (by have:=hb.w1;omega))).tg
           have ln:=vw i.toNat j.toNat t b.ao b.ao.length
           have w1:=hb.w1
           refine⟨?_,by simp only;omega,hb.n1,hb.n2,?_⟩
           · simp only[C5]
             cases hn:(j3 i.toNat j.toNat t b.ao b.ao.length).length with
             | zero=>omega
             | succ n=>exact(yA _ _).2.2
           · exact D1 (xk hb.ws (by omega) (by omega) _ (aLs _)) _ (aLs _)
 · exact hb
theorem Hc{m:aC}(hm:m.ok){N:Nat}{n:Int}{s:BSt}(hb:BOk m N s.b):BOk m N (aF.mE m n s).b:=by
 unfold aF.mE
 simp only
 split
 · exact G9 hb _ _ _
 · split
   · exact Jj hm hb _ _ _ _
   · exact Jk hm hb _ _ _ _ _
theorem Hd{m:aC}{n:Int}{s:BSt}:s.t≤(aF.mE m n s).t∧(aF.mE m n s).t≤s.t+60:=by
 have h1:=s.d.ff 60
 have h2:=s.d.fg (n:=60) (by omega)
 unfold aF.mE
 simp only
 split
 · simp only;omega
 · split<;>(simp only;omega)
theorem Ct{m:aC}(hm:m.ok){N:Nat}{n:Int}{s:BSt}(hb:BOk m N s.b)(hd:s.d.dY)(ht:s.t=100):∀k,BOk m N (aF.zC m n s k).b∧(aF.zC m n s k).d.dY∧100≤(aF.zC m n s k).t∧(aF.zC m n s k).t≤100+60*k
 | 0=>⟨hb,hd,by simp[aF.zC,ht],by simp[aF.zC,ht]⟩
 | k+1=>by
   obtain⟨h1,h2,h3,h4⟩:=Ct hm hb hd ht k
   have ht:=Hd (m:=m) (n:=n) (s:=aF.zC m n s k)
   exact⟨Hc hm h1,EO h2,by simp only[aF.zC];omega,by simp only[aF.zC];omega⟩
theorem Au{n:Nat}(h:n≤3):iu (sy n)=true:=by
 match n,h with
 | 0,_=>decide
 | 1,_=>decide
 | 2,_=>decide
 | 3,_=>decide
theorem uw(d:aF){n:Int}(hn:1≤n):∀k,∀x∈(d.nB n k).1,0≤x∧x<n
 | 0,x,hx=>by simp[aF.nB]at hx
 | k+1,x,hx=>by
   simp only[aF.nB,List.mem_append,List.mem_singleton]at hx
   rcases hx with hx | rfl
   · exact uw d hn k x hx
   · exact⟨aF.ff _ _,aF.fg _ hn⟩
theorem Cu(d:aF):1≤d.qo∧d.qo≤3:=by
 have h1:=d.ff 3
 have h2:=d.fg (n:=3) (by omega)
 unfold aF.qo;omega
theorem EP{m:aC}(hm:m.ok)(h1:1≤m.aa.length)(d:aF):
 (vv m (sy d.qo) (d.oa m).1 ((d.oa m).2.next 100).1)=(⟨[⟨sy d.qo,jd m (d.oa m).1 ((d.oa m).2.next 100).1 (sy d.qo).length⟩]⟩,0):=by
 have pb:=Cu d
 have tl:=mD d.qo
 have sl:(d.oa m).1.length=d.qo:=aF.lL _ _ _
 have t0:=(d.oa m).2.ff 100
 have t9:=(d.oa m).2.fg (n:=100) (by omega)
 have np:=hm.np
 unfold vv
 rw[if_pos (by omega),if_pos (Au (by omega))]
 have:(List.range (sy d.qo).length).find? (fun i=> !decide ((iD m (nth (d.oa m).1 i) ((d.oa m).2.next 100).1).2=0))=none:=by
  rw[List.find?_eq_none]
  intro i hi
  have hi:i<(d.oa m).1.length:=by rw[sl,←tl];exact aLu.1 hi
  have:=uw (d.next 3).2 (n:=m.aa.length) (by omega) d.qo _ (ai hi)
  have:=(G7 hm this.1 this.2 (t:=((d.oa m).2.next 100).1) ⟨by omega,by omega⟩).1
  have e:(iD m (nth (d.oa m).1 i) ((d.oa m).2.next 100).1).2=0:=this
  simp[e]
 rw[this]
theorem He{m:aC}(hm:m.ok)(h1:1≤m.aa.length)(d:aF):BOk m d.qo (d.NG m).b:=by
 have pb:=Cu d
 have tl:=mD d.qo
 have sl:(d.oa m).1.length=d.qo:=aF.lL _ _ _
 have t0:=(d.oa m).2.ff 100
 have t9:=(d.oa m).2.fg (n:=100) (by omega)
 have np:=hm.np
 unfold aF.NG
 rw[EP hm h1]
 refine⟨by simp,by simp,by omega,by omega,fun x hx=>?_⟩
 rw[List.mem_singleton.1 hx]
 refine⟨tl,by simp[tl],fun w hw=>?_,fun w hw=>by
  simp only[jd,List.mem_map,aLu]at hw
  obtain⟨i,hi,rfl⟩:=hw
  exact P0 ⟨by omega,by omega⟩⟩
 simp only[jd,List.mem_map,aLu]at hw
 obtain⟨i,hi,rfl⟩:=hw
 have hi:i<(d.oa m).1.length:=by rw[sl,←tl];exact hi
 have:=uw (d.next 3).2 (n:=m.aa.length) (by omega) d.qo _ (ai hi)
 exact(G7 hm this.1 this.2 ⟨by omega,by omega⟩).2
theorem P3{m:aC}(hm:m.ok)(h1:1≤m.aa.length){d:aF}(hd:d.dY):BOk m d.qo (d.uv m).1∧(d.uv m).2.dY:=by
 have l0:(d.NG m).d.dY:=aF.aY (aF.aY (aF.pV (aF.aY hd 3) _ _) _) _
 obtain⟨h1,h2, -⟩:=Ct hm (He hm h1 d) l0 rfl (n:=d.qo) (d.PY m)
 exact⟨h1,h2⟩
theorem P4{m:aC}(hm:m.ok)(d:aF)(hd:d.dY)(n:Nat)(hn:n≤12)(a b c e f g h i j k:D):
 exS aH K.oP ⟨[.bp 0 0,a,.bp 1 0,.bp 2 0,I n,.ref 3 0 0,.ref 4 0 0,I 0,b,c,e,f,g,h,i,j,k,.und],[d.obj,.box (ae m),.box [.nil],.arr 1 false 0 [],.arr 1 false 0 []]⟩=
 some (.exit 0,⟨[.bp 0 0,.und,.bp 1 0,.bp 2 0,I n,.ref 3 0 n,.ref 4 0 n,I n,.und,.und,.und,.und,.und,.und,.und,.und,.und,.und],[(d.nB m.aa.length n).2.obj,.box (ae m),.box [.nil],.arr 1 false 0 (ints (sy n)),.arr 1 false 0 (ints (d.nB m.aa.length n).1)]⟩):=by
 refine bz (fun k=>⟨[.bp 0 0,.und,.bp 1 0,.bp 2 0,I n,.ref 3 0 k,.ref 4 0 k,I k,.und,.und,.und,.und,.und,.und,.und,.und,.und,.und],[(d.nB m.aa.length k).2.obj,.box (ae m),.box [.nil],.arr 1 false 0 (ints (sy k)),.arr 1 false 0 (ints (d.nB m.aa.length k).1)]⟩) n rfl ?_ ?_ (by simp)
 · intro j hj
   have np:=hm.np
   have tl:=mD j
   have sl:=d.lL m.aa.length j
   have lt:=aF.pV hd m.aa.length j
   simp only[sy,aF.nB]
   generalize sy j=ts at*
   generalize d.nB m.aa.length j=s at*
   obtain⟨ss,d1⟩:=s
   simp only at sl lt ⊢
   have h1:=iJ d1 m.aa.length (by omega) lt
   generalize d1.next m.aa.length=r at*
   obtain⟨x,d2⟩:=r
   simp only at h1 ⊢
   simp(disch:=omega)only[go_sem,K.kz,↓reduceIte,ints,h1,reduceAdd,reduceSub]
 · have tl:=mD n
   have sl:=d.lL m.aa.length n
   simp(disch:=omega)only[go_sem,K.kz,↓reduceIte,ints,reduceAdd,reduceSub]
theorem P5{m:aC}(hm:m.ok){N:Nat}(n:Int)(n1:1≤n)(n2:n≤12)(tags bY:List Int)(s:BSt)(hd:s.d.dY)(hb:BOk m N s.b)(ht:s.t=100)(p1 p2:Bool)(kk:Nat)(hK:kk≤100):
 nj true [1,5,6,7,11,12,13,14,15,16,17] (exS aH K.bH) ⟨[.bp 0 0,.und,.bp 1 0,.bp 2 0,I n,.und,.und,.und,.bp 5 0,I s.t,I kk,.und,.und,.und,.und,.und,.und,.und],blH m p1 p2 tags bY s⟩=
 some (.exit 2,⟨[.bp 0 0,.und,.bp 1 0,.bp 2 0,I n,.und,.und,.und,.bp 5 0,I (aF.zC m n s kk).t,I 0,.und,.und,.und,.und,.und,.und,.und],blH m p1 p2 tags bY (aF.zC m n s kk)⟩):=by
 have key:=A6 (gc:=true) (dead:=[1,5,6,7,11,12,13,14,15,16,17]) (body:=exS aH K.bH)
  (fun k=>⟨[.bp 0 0,.und,.bp 1 0,.bp 2 0,I n,.und,.und,.und,.bp 5 0,I (aF.zC m n s k).t,I ((kk-k:Nat):Int),.und,.und,.und,.und,.und,.und,.und],blH m p1 p2 tags bY (aF.zC m n s k)⟩)
  (p:=(.exit 2,⟨[.bp 0 0,.und,.bp 1 0,.bp 2 0,I n,.und,.und,.und,.bp 5 0,I (aF.zC m n s kk).t,I 0,.und,.und,.und,.und,.und,.und,.und],blH m p1 p2 tags bY (aF.zC m n s kk)⟩)) kk ?_ ?_
 · exact key
 · intro k hk
   obtain⟨g1,g2,g3,g4⟩:=Ct hm (n:=n) hb hd ht k
   have:=PZ hm n n1 n2 tags bY (aF.zC m n s k) g2 (g1.sz hm) (by omega) (by omega) (kk-(k+1)) (by omega) p1 p2
   rw[show(((kk-(k+1):Nat):Int)+1)=((kk-k:Nat):Int)by omega]at this
   exact this
 · refine dW ?_ (by simp)
   simp only[Nat.sub_self]
   simp(disch:=omega)only[go_sem,K.bH,↓reduceIte,blH,reduceAdd,reduceSub]
theorem P6{m:aC}(hm:m.ok)(h1:1≤m.aa.length)(d:aF)(hd:d.dY):aH 0 N.cP [.bp 0 0,.t m.e] [d.obj]=some (.t (d.uv m).1.e,[(d.uv m).2.obj]):=by
 refine av K.me rfl ?_
 have np:=hm.np
 have pb:=Cu d
 have eP:(d.qo:Int)=1+(d.next 3).1:=by have:=d.ff 3;unfold aF.qo;omega
 have g0:=He hm h1 d
 have e0:=EP hm h1 d
 have a1:=iJ d 3 (by omega) hd
 have l1:=aF.aY hd 3
 have q1:=fun a b c e f g h i j k=>P4 hm (d.next 3).2 l1 d.qo (by omega) a b c e f g h i j k
 have eS:(d.next 3).2.nB m.aa.length d.qo=d.oa m:=rfl
 rw[eS]at q1
 have lS:(d.oa m).2.dY:=aF.pV l1 _ _
 have a2:=iJ (d.oa m).2 100 (by omega) lS
 have l2:=aF.aY lS 100
 have a3:=iJ ((d.oa m).2.next 100).2 5 (by omega) l2
 have l3:=aF.aY l2 5
 have k0:=((d.oa m).2.next 100).2.ff 5
 have k9:=((d.oa m).2.next 100).2.fg (n:=5) (by omega)
 have eK:(d.PY m:Int)=(((d.oa m).2.next 100).2.next 5).1:=by unfold aF.PY;omega
 have st:=Je hm (sy d.qo) (d.oa m).1 (by rw[mD];omega) ((d.oa m).2.next 100).1
 have tl:=mD d.qo
 have sl:(d.oa m).1.length=d.qo:=aF.lL _ _ _
 rw[e0]at st
 have b0:d.NG m=⟨⟨[⟨sy d.qo,jd m (d.oa m).1 ((d.oa m).2.next 100).1 (sy d.qo).length⟩]⟩,100,(((d.oa m).2.next 100).2.next 5).2⟩:=by unfold aF.NG;rw[e0]
 have q2:=fun p1 p2=>P5 hm d.qo (by omega) (by omega) (sy d.qo) (d.oa m).1 (d.NG m) (by rw[b0];exact l3) g0 rfl p1 p2 (d.PY m) (by omega)
 have q2:=fun p1 p2 a b c e f g h i j k l=>ue (vs:=[.bp 0 0,a,.bp 1 0,.bp 2 0,I d.qo,b,c,e,.bp 5 0,I 100,I (d.PY m),f,g,h,i,j,k,l]) (q2 p1 p2)
 have eF:aF.zC m d.qo (d.NG m) (d.PY m)=d.agP m:=rfl
 rw[eF]at q2
 unfold aF.uv
 rw[b0]at q2
 generalize d.agP m=F at*
 generalize (sy d.qo)=tags at*
 generalize jd m (d.oa m).1 ((d.oa m).2.next 100).1 tags.length=sw at*
 generalize d.PY m=kk at*
 generalize (((d.oa m).2.next 100).2.next 5)=z3 at*
 generalize ((d.oa m).2.next 100)=z2 at*
 generalize d.oa m=z1 at*
 generalize d.next 3=z0 at*
 generalize d.qo=n at*
 obtain⟨x3,d3⟩:=z3
 obtain⟨x2,d2⟩:=z2
 obtain⟨ss,d1⟩:=z1
 obtain⟨x0,d0⟩:=z0
 obtain⟨⟨wf⟩,tf,df⟩:=F
 simp only[List.map_cons,List.map_nil,blH]at*
 have q2:∀p1 p2 a b c e f g h i j k l,exS aH K.oQ _=_:=q2
 simp(disch:=omega)only[go_sem,K.cP,↓reduceIte,ints,a1,eP.symm,q1,a2,a3,st,eK.symm,tl,sl,q2,reduceAdd,reduceSub]
def aF.spread(d:aF)(m:aC)(fl:List Spn):Wh×aF:=
 let p:=d.next m.aa.length
 let t:=p.2.next 200
 let s:=aec m fl [p.1] t.1
 let o:=t.2.one 2
 if o.1=true then
  let f:=o.2.ai6 m
  let a:=f.2.next 100
  let r:=Yl m fl m f.1 s.1 (s.1.time+a.1)
  if r.2=0 then(r.1,a.2)else(s.1,a.2)
 else(s.1,o.2)
structure Mch where
 kind:Int
 num:Int
 pl:List Int
instance : Dat Mch := ⟨⟨0, 0, []⟩⟩
abbrev Mch.e(x:Mch):T:= .agg [tI x.kind,tI x.num,tL x.pl]
theorem zD{n:Nat}{p:Nat→Bool}{x:Int}:x∈fL n p↔∃k:Nat,x=k∧k<n∧p k=true:=by
 unfold fL
 simp only[List.mem_map,List.mem_filter,aLu]
 constructor
 · rintro ⟨k,⟨h1,h2⟩,rfl⟩;exact⟨k,rfl,h1,h2⟩
 · rintro ⟨k,rfl,h1,h2⟩;exact⟨k,⟨h1,h2⟩,rfl⟩
theorem C6{n:Nat}{p:Nat→Bool}{k:Nat}:(k:Int)∈fL n p↔k<n∧p k=true:=by
 rw[zD]
 constructor
 · rintro ⟨j,h,h1,h2⟩
   obtain rfl:k=j:=by omega
   exact⟨h1,h2⟩
 · rintro ⟨h1,h2⟩;exact⟨k,rfl,h1,h2⟩
theorem ER(l:List World)(hl:l.length≤4294967296)(f:Nat)(bs:List (List T))(p:World→Bool)(h:∀x,x∈l→aH 0 f (.t x.e::gP bs.length) (aW bs)=some (B (p x),aW bs)):
 aH 0 N.aJ [.t (.sl (l.map World.e)),.fn f (gP bs.length)] (aW bs)=
 some (I (match (List.range l.length).find? (fun j=>p (nth l j))with | some j=>(j:Int) | none=> -1),aW bs):=by
 refine av K.dA rfl ?_
 have loop:∀a b:D,exS aH K.ga ⟨[.t (.sl (l.map World.e)),.fn f (gP bs.length),a,b,I l.length,I 0],aW bs⟩=
  some (match (List.range l.length).find? (fun j=>p (nth l j))with
   | some j=>(.ret,⟨[.t (.sl (l.map World.e)),.fn f (gP bs.length),I j,I j,I l.length,I j],aW bs⟩)
   | none=>(.exit 0,⟨[.t (.sl (l.map World.e)),.fn f (gP bs.length),.und,.und,I l.length,I l.length],aW bs⟩)):=by
  intro a b
  refine cq (fun j=>⟨[.t (.sl (l.map World.e)),.fn f (gP bs.length),.und,.und,I l.length,I j],aW bs⟩) l.length (fun j=>p (nth l j)) _ _ rfl ?_ ?_ ?_ (by simp)
  · intro j hj hp
    have hc:=oE (h _ (ai hj)) rfl
    simp(disch:=omega)only[go_sem,K.bV,↓reduceIte,hc,hp]
  · intro j hj hp
    have hc:=oE (h _ (ai hj)) rfl
    simp(disch:=omega)only[go_sem,K.bV,↓reduceIte,hp,hc]
    simp
  · simp(disch:=omega)only[go_sem,K.bV,↓reduceIte]
 simp(disch:=omega)only[go_sem,K.aJ,↓reduceIte,loop]
 cases hf:(List.range l.length).find? (fun j=>p (nth l j))with
 | some j=>simp(disch:=omega)only[go_sem,↓reduceIte]
 | none=>simp(disch:=omega)only[go_sem,↓reduceIte]
theorem ES{α:Type} [Dat α]{l:List α}{p:α→Bool}:((List.range l.length).find? fun j=>p (nth l j)).isSome=l.any p:=by
 rw[List.isSome_find?,Bool.eq_iff_iff,List.any_eq_true,List.any_eq_true]
 constructor
 · rintro ⟨j,hj,h⟩
   exact⟨_,ai (aLu.1 hj),h⟩
 · rintro ⟨x,hx,h⟩
   obtain⟨j,hj⟩:=aLf.1 hx
   exact⟨j,aLu.2 (aLe.1 hj).1,by rw[bD hj];exact h⟩
theorem P7{α:Type} [Dat α](l:List α)(p:α→Bool):l.any p=(List.range l.length).any fun i=>p (nth l i):=by
 rw[← ES,List.isSome_find?]
theorem AN(l:List World)(hl:l.length≤4294967296)(f:Nat)(bs:List (List T))(p:World→Bool)(h:∀x,x∈l→aH 0 f (.t x.e::gP bs.length) (aW bs)=some (B (p x),aW bs)):
 aH 0 N.aA [.t (.sl (l.map World.e)),.fn f (gP bs.length)] (aW bs)=some (B (l.any p),aW bs):=by
 refine av K.cY rfl ?_
 have h:=ER l hl f bs p h
 have hc:=zp aH bs f _ 0 (.sl (l.map World.e)) h rfl
 have e:=ES (l:=l) (p:=p)
 cases hf:(List.range l.length).find? (fun j=>p (nth l j))with
 | some j=>rw[hf]at e hc;simp(disch:=omega)only[go_sem,K.aA,↓reduceIte,←e,hc]
 | none=>rw[hf]at e hc;simp(disch:=omega)only[go_sem,K.aA,↓reduceIte,←e,hc,Option.isSome_none]
def Y4(aQ t:Int)(p:Nat)(x:World):Bool:=decide (0≤aQ∧aQ<x.whr.length)&&(decide (p<(nth x.whr aQ.toNat).frm.length)&&decide (nth (nth x.whr aQ.toNat).frm p≤t))
theorem P8(x:World)(hx:x.sz)(aQ t:Int)(p:Nat)(hp:p≤1000000):
 aH 0 N.bu [.t x.e,.bp 0 0,.bp 1 0,.bp 2 0] [.box [I aQ],.box [I p],.box [I t]]=some (B (Y4 aQ t p x),[.box [I aQ],.box [I p],.box [I t]]):=by
 refine av K.kB rfl ?_
 have li:=C3 aQ 0 (x.whr.length-1)
 obtain⟨h1,h2,h3⟩:=hx
 unfold Y4
 by_cases c:0≤aQ∧aQ<x.whr.length
 · obtain⟨c1,c2⟩:=c
   have e1:(x.whr.map Wh.e)[aQ.toNat]?=some (nth x.whr aQ.toNat).e:=bR _ (by omega)
   have h4:=h3 _ (ai (l:=x.whr) (j:=aQ.toNat) (by omega))
   have li':decide (0≤aQ∧aQ≤(x.whr.length:Int)-1)=true:=by simp;omega
   rw[li']at li
   generalize nth x.whr aQ.toNat=w at*
   obtain⟨tags,whr⟩:=x
   obtain⟨time,frm⟩:=w
   simp only at*
   by_cases c3:p<frm.length
   · simp(disch:=omega)only[go_sem,K.bu,↓reduceIte,reduceAdd,reduceSub,li,e1,c1,c2,c3,and_self]
   · simp(disch:=omega)only[go_sem,K.bu,↓reduceIte,reduceAdd,reduceSub,li,e1,c1,c2,c3,and_self]
 · have li':decide (0≤aQ∧aQ≤(x.whr.length:Int)-1)=false:=by simp;omega
   rw[li']at li
   obtain⟨tags,whr⟩:=x
   simp only at*
   simp(disch:=omega)only[go_sem,K.bu,↓reduceIte,reduceAdd,reduceSub,li,c]
theorem Tn(b:Bel)(hb:b.sz)(aQ t:Int)(p:Nat)(hp:p≤1000000):
 aH 0 N.cC [I p,.bp 0 0,.bp 1 0,.bp 2 0] [.box [.t (.sl (b.ao.map World.e))],.box [I aQ],.box [I t]]=some (B (b.ao.any (Y4 aQ t p)),[.box [.t (.sl (b.ao.map World.e))],.box [I aQ],.box [I t]]):=by
 refine av K.mq rfl ?_
 have cf:=AN b.ao (by have:=hb.1;omega) N.bu [[tI aQ],[tI p],[tI t]] (Y4 aQ t p) (fun x hx=>P8 x (hb.2 x hx) aQ t p hp)
 have cf:aH 0 N.aA [.t (.sl (b.ao.map World.e)),.fn N.bu [.bp 0 0,.bp 1 0,.bp 2 0]] [.box [I aQ],.box [I p],.box [I t]]=some (B (b.ao.any (Y4 aQ t p)),[.box [I aQ],.box [I p],.box [I t]]):=cf
 simp(disch:=omega)only[go_sem,K.cC,↓reduceIte,reduceAdd,reduceSub,cf]
theorem P9(b:Bel)(aQ t:Int)(p:Nat):b.ao.any (Y4 aQ t p)=Cp b aQ t p:=by
 unfold Cp
 rw[P7]
 congr 1
 funext i
 unfold Y4
 congr 1
 rw[Bool.eq_iff_iff]
 simp only[aLr,decide_eq_true_eq,yl,C6]
theorem xl(b:Bel)(hb:b.sz)(aQ t:Int):aH 0 N.eC [.t b.e,I aQ,I t] []=some (.t (tL (nS b aQ t)),[]):=by
 refine av K.nN rfl ?_
 have wh:=SL 64 (by omega) N.cC [[.sl (b.ao.map World.e)],[tI aQ],[tI t]] (Cp b aQ t) (fun p hp=>by rw[← P9];exact Tn b hb aQ t p (by omega))
 have wh:aH 0 N.gz [I 64,.fn N.cC [.bp 0 0,.bp 1 0,.bp 2 0]] [.box [.t (.sl (b.ao.map World.e))],.box [I aQ],.box [I t]]=some (.t (tL (nS b aQ t)),[.box [.t (.sl (b.ao.map World.e))],.box [I aQ],.box [I t]]):=wh
 obtain⟨ws⟩:=b
 simp only at wh
 generalize nS ⟨ws⟩ aQ t=r at*
 simp(disch:=omega)only[go_sem,K.eC,↓reduceIte,wh,reduceAdd,reduceSub]
theorem ux(b:Bel)(aQ t:Int):(nS b aQ t).length≤64:=oF _ _
end Go.Ev
namespace Go.Ev
open Go
variable [Lib] [bX] [bJ] [fR] [fS] [iK] [fy] [fo] [gU] [fM] [cV] [cI]
theorem ET(l:List Wh)(hl:l.length≤4294967296)(f:Nat)(bs:List (List T))(p:Wh→Bool)(h:∀x,x∈l→aH 0 f (.t x.e::gP bs.length) (aW bs)=some (B (p x),aW bs)):
 aH 0 N.az [.t (.sl (l.map Wh.e)),.fn f (gP bs.length)] (aW bs)=
 some (I (match (List.range l.length).find? (fun j=>p (nth l j))with | some j=>(j:Int) | none=> -1),aW bs):=by
 refine av K.bS rfl ?_
 have loop:∀a b:D,exS aH K.dn ⟨[.t (.sl (l.map Wh.e)),.fn f (gP bs.length),a,b,I l.length,I 0],aW bs⟩=
  some (match (List.range l.length).find? (fun j=>p (nth l j))with
   | some j=>(.ret,⟨[.t (.sl (l.map Wh.e)),.fn f (gP bs.length),I j,I j,I l.length,I j],aW bs⟩)
   | none=>(.exit 0,⟨[.t (.sl (l.map Wh.e)),.fn f (gP bs.length),.und,.und,I l.length,I l.length],aW bs⟩)):=by
  intro a b
  refine cq (fun j=>⟨[.t (.sl (l.map Wh.e)),.fn f (gP bs.length),.und,.und,I l.length,I j],aW bs⟩) l.length (fun j=>p (nth l j)) _ _ rfl ?_ ?_ ?_ (by simp)
  · intro j hj hp
    have hc:=oE (h _ (ai hj)) rfl
    simp(disch:=omega)only[go_sem,K.bf,↓reduceIte,hc,hp]
  · intro j hj hp
    have hc:=oE (h _ (ai hj)) rfl
    simp(disch:=omega)only[go_sem,K.bf,↓reduceIte,hp,hc]
    simp
  · simp(disch:=omega)only[go_sem,K.bf,↓reduceIte]
 simp(disch:=omega)only[go_sem,K.az,↓reduceIte,loop]
 cases hf:(List.range l.length).find? (fun j=>p (nth l j))with
 | some j=>simp(disch:=omega)only[go_sem,↓reduceIte]
 | none=>simp(disch:=omega)only[go_sem,↓reduceIte]
theorem AO(l:List Wh)(hl:l.length≤4294967296)(f:Nat)(bs:List (List T))(p:Wh→Bool)(h:∀x,x∈l→aH 0 f (.t x.e::gP bs.length) (aW bs)=some (B (p x),aW bs)):
 aH 0 N.au [.t (.sl (l.map Wh.e)),.fn f (gP bs.length)] (aW bs)=some (B (l.any p),aW bs):=by
 refine av K.bI rfl ?_
 have h:=ET l hl f bs p h
 have hc:=zp aH bs f _ 0 (.sl (l.map Wh.e)) h rfl
 have e:=ES (l:=l) (p:=p)
 cases hf:(List.range l.length).find? (fun j=>p (nth l j))with
 | some j=>rw[hf]at e hc;simp(disch:=omega)only[go_sem,K.au,↓reduceIte,←e,hc]
 | none=>rw[hf]at e hc;simp(disch:=omega)only[go_sem,K.au,↓reduceIte,←e,hc,Option.isSome_none]
theorem Cv{l:List Int}:iu l=true↔l.Nodup∧∀x∈l,1≤x∧x≤65535:=by
 constructor
 · intro h
   refine⟨kr h,fun x hx=>?_⟩
   simp only[iu,aLx,aLu,o6,decide_eq_true_eq]at h
   obtain⟨j,hj⟩:=aLf.1 hx
   have:=h j (aLe.1 hj).1
   rw[bD hj]at this
   exact⟨this.1,this.2.1⟩
 · rintro ⟨h1,h2⟩
   simp only[iu,aLx,aLu,o6,decide_eq_true_eq]
   intro j hj
   obtain⟨a,b⟩:=h2 _ (ai hj)
   refine⟨a,b,Decidable.byContradiction fun c=>?_⟩
   obtain⟨d,e⟩:=zz (l:=l.take j) (x:=nth l j) (by omega)
   have z:0≤cE (l.take j) (nth l j):=by omega
   generalize cE (l.take j) (nth l j)=k at*
   rw[List.length_take]at d
   have k1:k.toNat<j:=by omega
   have e1:(l.take j)[k.toNat]?=l[k.toNat]?:=List.getElem?_take_of_lt k1
   have e2:l[k.toNat]?=some l[k.toNat]:=aLc (by omega)
   rw[bD (e1.trans e2),←bD e2]at e
   have n2:=(List.getElem?_inj (by omega:k.toNat<l.length) h1).1 (show l[k.toNat]?=l[j]? by rw[c7 (by omega),c7 hj,e])
   omega
theorem K0{l:List Int}{lo hi:Int}:Vt l lo hi=true↔l.Pairwise (· < ·)∧∀x∈l,lo≤x∧x≤hi:=by
 have e:Vt l lo hi=true↔∀j,j<l.length→lo≤nth l j∧nth l j≤hi∧(0<j→nth l (j-1)<nth l j):=by
  simp only[Vt,Bool.not_eq_true',List.any_eq_false,aLu,Pw,Bool.not_eq_true]
  constructor
  · intro h j hj
    have:=h j hj
    exact Decidable.byContradiction fun c=>this (decide_eq_false c)
  · intro h j hj c
    exact(of_decide_eq_false c) (h j hj)
 rw[e]
 constructor
 · intro h
   refine⟨?_,fun x hx=>?_⟩
   · have key:∀d i,i+d+1<l.length→nth l i<nth l (i+d+1):=by
      intro d
      induction d with
      | zero=>intro i hi;have:=(h (i+0+1) hi).2.2 (by omega);simpa using this
      | succ d ih=>
        intro i hi
        have a:=ih i (by omega)
        have b:=(h (i+(d+1)+1) hi).2.2 (by omega)
        rw[show i+(d+1)+1-1=i+d+1 by omega]at b
        omega
     rw[List.pairwise_iff_getElem]
     intro i j hi hj hij
     have:=key (j-i-1) i (by omega)
     rw[show i+(j-i-1)+1=j by omega,bD (aLc hi),bD (aLc hj)]at this
     exact this
   · obtain⟨j,hj⟩:=aLf.1 hx
     have:=h j (aLe.1 hj).1
     rw[bD hj]at this
     exact⟨this.1,this.2.1⟩
 · rintro ⟨h1,h2⟩ j hj
   refine⟨(h2 _ (ai hj)).1,(h2 _ (ai hj)).2,fun h0=>?_⟩
   have:=(List.pairwise_iff_getElem.1 h1) (j-1) j (by omega) hj (by omega)
   rwa [← bD (aLc (by omega:j-1<l.length)),←bD (aLc hj)]at this
theorem MC(l:List Int):Vt (iS l) 1 65535=iu l:=by
 rw[Bool.eq_iff_iff,K0,Cv]
 have p:=kq l
 have u:=vu l
 constructor
 · rintro ⟨h1,h2⟩
   refine⟨p.nodup_iff.1 (h1.imp fun h=>by omega),fun x hx=>h2 x (p.mem_iff.2 hx)⟩
 · rintro ⟨h1,h2⟩
   have nd:(iS l).Nodup:=p.nodup_iff.2 h1
   refine⟨?_,fun x hx=>h2 x (p.mem_iff.1 hx)⟩
   have:=List.Pairwise.and u nd
   exact this.imp fun h=>by omega
theorem Qa(l:List Int)(hl:l.length≤1000000):aH 0 N.gM [.t (tL l)] []=some (B (iu l),[]):=by
 refine av K.qn rfl ?_
 have v:=Cm l
 have s:=Cn l hl
 have r:=qW (iS l) 1 65535 (by rw[ka];omega)
 rw[MC]at r
 simp(disch:=omega)only[go_sem,K.gM,↓reduceIte,v,s,r,reduceAdd,reduceSub]
theorem uy{n j:Nat}{p:Nat→Bool}(h1:j<n)(h2:p j=true)(h3:∀k,k<j→p k=false):(List.range n).find? p=some j:=by
 cases hf:(List.range n).find? p with
 | none=>exact absurd h2 (by simpa using List.find?_eq_none.1 hf j (aLu.2 h1))
 | some k=>
   obtain⟨k1,k2⟩:=B7 hf
   have:k≤j:=by
    rcases Nat.lt_or_ge j k with c | c
    · rw[List.find?_range_eq_some]at hf
      exact absurd h2 (by simpa using hf.2.2 j c)
    · exact c
   rcases Nat.lt_or_ge k j with c | c
   · rw[h3 k c]at k2;cases k2
   · rw[show k=j by omega]
theorem Hf{n:Nat}{p:Nat→Bool}(h:∀k,k<n→p k=false):(List.range n).find? p=none:=List.find?_eq_none.2 fun x hx=>by rw[h x (aLu.1 hx)];simp
theorem Qb(a b:List Int):decide (abK a b<0)=um a b:=by
 unfold abK um
 cases hf:(List.range (min a.length b.length)).find? (fun j=>decide (nth a j≠nth b j))with
 | some j=>
   rw[List.find?_range_eq_some]at hf
   obtain⟨h2,h1,h3⟩:=hf
   have h1:=aLu.1 h1
   have e:(List.range a.length).find? (KU a b)=some j:=uy (by omega) (by simp only[KU,h2,Bool.or_true]) (fun k hk=>by
    have:=h3 k hk
    simp only[KU,Bool.or_eq_false_iff,decide_eq_false_iff_not]
    exact⟨by omega,by simpa using this⟩)
   have h2:nth a j≠nth b j:=by simpa using h2
   rw[e]
   simp only[if_neg (by omega:¬b.length≤j)]
   rw[decide_eq_decide]
   unfold PQ
   split
   · omega
   · split<;>omega
 | none=>
   have h3:∀k,k<min a.length b.length→nth a k=nth b k:=fun k hk=>by
    have:=List.find?_eq_none.1 hf k (aLu.2 hk)
    simpa using this
   by_cases c:a.length≤b.length
   · have e:(List.range a.length).find? (KU a b)=none:=Hf fun k hk=>by
      simp only[KU,Bool.or_eq_false_iff,decide_eq_false_iff_not,Decidable.not_not]
      exact⟨by omega,h3 k (by omega)⟩
     rw[e]
     simp only[decide_eq_decide]
     split<;>omega
   · have e:(List.range a.length).find? (KU a b)=some b.length:=uy (by omega) (by simp[KU]) (fun k hk=>by
      simp only[KU,Bool.or_eq_false_iff,decide_eq_false_iff_not,Decidable.not_not]
      exact⟨by omega,h3 k (by omega)⟩)
     rw[e]
     simp only[aLs,if_true,decide_eq_decide]
     omega
def pwB(m:aC)(ws:List World)(first:List Int)(i:Nat):Bool:=
 decide (1≤(nth ws i).tags.length∧(nth ws i).tags.length≤12)&&decide ((nth ws i).whr.length=(nth ws i).tags.length)&&iu (nth ws i).tags&&decide (iS (nth ws i).tags=iS first)&&(decide (i=0)||um (nth ws (i-1)).tags (nth ws i).tags)&& !((nth ws i).whr.any fun x=> !dF m x)
def To(m:aC)(b:Bel):Bool:=decide (1≤b.ao.length∧b.ao.length≤24)&&(List.range b.ao.length).all (pwB m b.ao (nth b.ao 0).tags)
theorem Av{a b:List Int}:iS a=iS b↔a.Perm b:=by
 constructor
 · intro h
   exact(kq a).symm.trans (h▸kq b)
 · intro h
   exact ai8 (vu a) (vu b) ((kq a).trans (h.trans (kq b).symm))
theorem wA{a b:List Int}(ha:a.Nodup)(hb:b.Nodup)(hl:a.length=b.length)(hs:∀x∈a,x∈b):a.Perm b:=by
 have key:∀y∈b,y∈a:=fun y hy=>Decidable.byContradiction fun hn=>by
  have:=sn ha (l':=b.erase y) (fun x hx=>(List.mem_erase_of_ne (fun e=>hn (by rw[← e];exact hx))).2 (hs x hx))
  rw[List.length_erase_of_mem hy]at this
  have:=List.length_pos_of_mem hy
  omega
 exact(List.perm_ext_iff_of_nodup ha hb).2 fun x=>⟨hs x,key x⟩
theorem Tp(m:aC)(b:Bel):To m b=qV m b:=by
 obtain⟨ws⟩:=b
 rw[Bool.eq_iff_iff]
 constructor
 · intro h
   simp only[To,aLr,decide_eq_true_eq,aLx,aLu,pwB,Bool.or_eq_true,Bool.not_eq_true',List.any_eq_false,Bool.not_eq_false']at h
   obtain⟨⟨h1,h2⟩,h⟩:=h
   have h0:=h 0 (by omega)
   simp only[qV,aLr,decide_eq_true_eq,aLx,aLu,qU,Bool.or_eq_true,ND]
   refine⟨⟨⟨h1,h2⟩,h0.1.1.1.1.1⟩,fun i hi=>?_⟩
   obtain⟨⟨⟨⟨⟨a1,a2⟩,a3⟩,a4⟩,a5⟩,a6⟩:=h i hi
   have pm:=Av.1 a4
   refine⟨⟨⟨⟨pm.length_eq,by rw[a2,pm.length_eq]⟩,a3⟩,a5⟩,fun k hk=>⟨?_,?_⟩⟩
   · exact m7.2 (pm.mem_iff.1 (ai hk))
   · simpa using a6 _ (ai (l:=(nth ws i).whr) (j:=k) (by omega))
 · intro h
   obtain⟨h1,h2,h3,h4,h5⟩:=gH h
   simp only at h1 h2 h3 h4 h5
   have p0:=(kc (h5 0 (by omega))).2.2.1
   simp only[To,aLr,decide_eq_true_eq,aLx,aLu,pwB,Bool.or_eq_true,Bool.not_eq_true',List.any_eq_false,Bool.not_eq_false']
   refine⟨⟨h1,h2⟩,fun i hi=>?_⟩
   obtain⟨w1,w2,w3,w4⟩:=kc (h5 i hi)
   have ls:=h5 i hi
   simp only[qU,aLr,Bool.or_eq_true,decide_eq_true_eq]at ls
   refine⟨⟨⟨⟨⟨by omega,by omega⟩,w3⟩,?_⟩,ls.1.2⟩,fun x hx=>?_⟩
   · refine Av.2 (wA (kr w3) (kr p0) w1 fun x hx=>?_)
     obtain⟨j,hj⟩:=aLf.1 hx
     have:=(w4 j (aLe.1 hj).1).1
     rwa [bD hj]at this
   · obtain⟨j,hj⟩:=aLf.1 hx
     have:=(w4 j (by rw[w1,←w2];exact(aLe.1 hj).1)).2
     rw[bD hj]at this
     simpa using this
theorem Jl{m:aC}(h:m.ok)(x:Wh)(hx:x.frm.length≤1000000):aH 0 N.dP [.t x.e,.bp 0 0] [.box (ae m)]=some (B (!dF m x),[.box (ae m)]):=by
 refine av K.o9 rfl ?_
 have v:=Px h x hx
 obtain⟨aa,roads⟩:=m
 obtain⟨time,frm⟩:=x
 simp only at*
 simp(disch:=omega)only[go_sem,K.dP,↓reduceIte,v,reduceAdd,reduceSub]
abbrev swS(m:aC)(ws:List World)(first:List Int)(i:Nat):St:=
 ⟨[.und,.und,.bp 0 0,.bp 1 0,.und,.t (tL (iS first)),.und,.und,.t (.sl (ws.map World.e)),I ws.length,I i],[.box (ae m),.box [.t (.sl (ws.map World.e))],.box [.t (tL first)]]⟩
theorem Qc{m:aC}(h:m.ok)(ws:List World)(first:List Int)(hf:first.length≤1000000)(hs:∀x∈ws,x.sz)(i:Nat)(hi:i<ws.length)(hl:ws.length≤1000000):
 (pwB m ws first i=true→gp true [0,1,4,6,7] 3 (exS aH K.b7 (swS m ws first i))=some (swS m ws first (i+1)))∧
 (pwB m ws first i=false→∃q,exS aH K.b7 (swS m ws first i)=some q∧q.1= .ret∧q.2.vs[4]?=some (B false)):=by
 simp only[swS]
 have sz:=hs _ (ai hi)
 have ex:(ws.map World.e)[i]?=some (nth ws i).e:=bR _ hi
 unfold pwB
 have ey:0<i→(ws.map World.e)[i-1]?=some (nth ws (i-1)).e∧(nth ws (i-1)).tags.length≤1000000:=fun h0=>⟨bR _ (by omega),(hs _ (ai (by omega))).1⟩
 generalize nth ws (i-1)=y at*
 generalize nth ws i=x at*
 obtain⟨tags,whr⟩:=x
 obtain⟨ptags,pwhr⟩:=y
 obtain⟨s1,s2,s3⟩:=sz
 simp only at s1 s2 s3 ey ⊢
 have li:=C3 tags.length 1 12
 have tg:=Qa tags s1
 have va:=Cm tags
 have so:=Cn tags s1
 have eq:=KN (iS tags) (iS first) (by rw[ka];omega) (by rw[ka];omega)
 have cf:=AO whr (by omega) N.dP [[.sl (m.aa.map Place.e),.sl (m.roads.map Road.e)]] (fun x=> !dF m x) (fun x hx=>Jl h x (s3 x hx))
 have cf:aH 0 N.au [.t (.sl (whr.map Wh.e)),.fn N.dP [.bp 0 0]] [.box (ae m)]=some (B (whr.any fun x=> !dF m x),[.box (ae m)]):=cf
 have cp:0<i→aH 0 N.aZ [.t (tL ptags),.t (tL tags)] []=some (I (abK ptags tags),[]):=fun h0=>Mv ptags tags (ey h0).2 s1
 have cl:=Qb ptags tags
 generalize iS tags=st at*
 generalize iS first=sf at*
 generalize (whr.any fun x=> !dF m x)=an at*
 generalize iu tags=pr at*
 generalize um ptags tags=le at*
 generalize abK ptags tags=cc at*
 clear hs s3
 by_cases c1:1≤tags.length∧tags.length≤12
 · have li:aH 0 N.eI [I tags.length,I 1,I 12] []=some (B true,[]):=by rw[li,decide_eq_true (by omega)]
   by_cases c2:whr.length=tags.length
   · cases pr with
     | false=>
       refine⟨fun h=>by simp at h,fun _=>?_⟩
       simp(disch:=omega)only[go_sem,K.b7,↓reduceIte,li,tg,ex,c2,reduceAdd,reduceSub]
       refine⟨_,rfl,?_,?_⟩<;>rfl
     | true=>
       by_cases c4:st=sf
       · subst c4
         simp only[decide_true]at eq
         cases i with
         | zero=>
           cases an with
           | true=>
             refine⟨fun h=>by simp at h,fun _=>?_⟩
             simp(disch:=omega)only[go_sem,K.b7,↓reduceIte,li,tg,ex,c2,va,so,eq,cf,reduceAdd,reduceSub]
             refine⟨_,rfl,?_,?_⟩<;>rfl
           | false=>
             refine⟨fun _=>?_,fun h=>by simp[c1,c2]at h⟩
             simp(disch:=omega)only[go_sem,K.b7,↓reduceIte,li,tg,ex,c2,va,so,eq,cf,reduceAdd,reduceSub]
         | succ i=>
           obtain⟨ey, -⟩:=ey (by omega)
           have cp:=cp (by omega)
           simp only[Nat.add_sub_cancel]at ey
           cases le with
           | false=>
             have cl:¬cc<0:=by simpa using cl
             refine⟨fun h=>by simp at h,fun _=>?_⟩
             simp(disch:=omega)only[go_sem,K.b7,↓reduceIte,li,tg,ex,c2,va,so,eq,ey,cp,reduceAdd,reduceSub]
             refine⟨_,rfl,?_,?_⟩<;>rfl
           | true=>
             have cl:cc<0:=by simpa using cl
             cases an with
             | true=>
               refine⟨fun h=>by simp at h,fun _=>?_⟩
               simp(disch:=omega)only[go_sem,K.b7,↓reduceIte,li,tg,ex,c2,va,so,eq,ey,cp,cf,reduceAdd,reduceSub]
               refine⟨_,rfl,?_,?_⟩<;>rfl
             | false=>
               refine⟨fun _=>?_,fun h=>by simp[c1,c2]at h⟩
               simp(disch:=omega)only[go_sem,K.b7,↓reduceIte,li,tg,ex,c2,va,so,eq,ey,cp,cf,reduceAdd,reduceSub]
       · simp only[c4,decide_false]at eq
         refine⟨fun h=>by simp[c4]at h,fun _=>?_⟩
         simp(disch:=omega)only[go_sem,K.b7,↓reduceIte,li,tg,ex,c2,va,so,eq,reduceAdd,reduceSub]
         refine⟨_,rfl,?_,?_⟩<;>rfl
   · refine⟨fun h=>by simp[c2]at h,fun _=>?_⟩
     simp(disch:=omega)only[go_sem,K.b7,↓reduceIte,li,ex,c2,reduceAdd,reduceSub]
     refine⟨_,rfl,?_,?_⟩<;>rfl
 · have li:aH 0 N.eI [I tags.length,I 1,I 12] []=some (B false,[]):=by rw[li,decide_eq_false (by omega)]
   refine⟨fun h=>by simp[c1]at h,fun _=>?_⟩
   simp(disch:=omega)only[go_sem,K.b7,↓reduceIte,li,ex,reduceAdd,reduceSub]
   refine⟨_,rfl,?_,?_⟩<;>rfl
end Go.Ev
namespace Go.Ev
open Go
variable [Lib] [bX] [bJ] [gU] [fM]
theorem Qd{l:List Int}{n:Int}(h:rq l n=true):∀x∈l,0≤x∧x<n:=by
 intro x hx
 simp only[rq,aLx,aLu,decide_eq_true_eq]at h
 obtain⟨j,hj⟩:=aLf.1 hx
 have:=h j (aLe.1 hj).1
 rw[bD hj]at this
 exact⟨this.1,this.2.1⟩
theorem Y5{w:Wh}{l:List Int}{b:Int}{n:Nat}(hl:∀p∈l,0≤p∧p<n)(hw:∀x∈w.frm,plT x)(hn:w.frm.length=n):∀x∈(CV w l b n l.length).1,plT x:=by
 intro x hx
 obtain⟨j,hj⟩:=aLf.1 hx
 have jl:=(aLe.1 hj).1
 rw[rY]at jl
 have e:=KJ (w:=w) (b:=b) hl _ (aLs _) j jl
 rw[bD hj]at e
 rw[e]
 split
 · exact hw _ (ai (by omega))
 · exact .inl rfl
theorem Qe{m:aC}(h:m.ok){w:Wh}(hv:dF m w=true)(l:List Int)(a b:Int):
 (C4 m w l a b=(⟨b,dE m a none (CV w l b m.aa.length l.length).1⟩,0)∧mr m w l a b=0∧w.time≤a∧(CV w l b m.aa.length l.length).2=true∧dF m (C4 m w l a b).1=true)∨((C4 m w l a b).1=w∧(C4 m w l a b).2≠0):=by
 by_cases c0:mr m w l a b=0
 · obtain⟨-,h0,hs,ia,ib,hab⟩:=oz c0
   by_cases c1:a<w.time
   · right;unfold C4;rw[if_neg (by simpa using c0),if_pos c1];exact⟨rfl,by simp⟩
   · cases c2:(CV w l b m.aa.length l.length).2 with
     | false=>right;unfold C4;rw[if_neg (by simpa using c0),if_neg c1,if_neg (by simp[c2])];exact⟨rfl,by simp⟩
     | true=>
       left
       have e:C4 m w l a b=(⟨b,dE m a none (CV w l b m.aa.length l.length).1⟩,0):=by
        unfold C4;rw[if_neg (by simpa using c0),if_neg c1,if_pos c2]
       obtain⟨v1,v2,v3, -⟩:=eM hv
       refine⟨e,c0,by omega,rfl,?_⟩
       rw[e]
       exact rZ h (rY ..) (Y5 (Qd hs) v3 v1) ia.1 hab ib
 · right;unfold C4;rw[if_pos c0];exact⟨rfl,c0⟩
theorem Qf{m:aC}(h:m.ok){w:Wh}(hv:dF m w=true)(l:List Int)(a b:Int):dF m (C4 m w l a b).1=true:=by
 rcases Qe h hv l a b with⟨-, -, -, -,v⟩ | ⟨e, -⟩
 · exact v
 · rw[e];exact hv
end Go.Ev
namespace Go.Ev
open Go
variable [Lib] [bX] [bJ] [fR] [fS] [fy] [fo] [gU] [fM]
end Go.Ev
namespace Go.Ev
open Go
variable [Lib] [bX] [bJ]
theorem Qg{s:Wh}{t:Int}{p:Int}:p∈yl s t↔0≤p∧p<s.frm.length∧nth s.frm p.toNat≤t:=by
 unfold yl
 rw[zD]
 constructor
 · rintro ⟨k,rfl,h1,h2⟩
   exact⟨by omega,by omega,by simpa using h2⟩
 · rintro ⟨h1,h2,h3⟩
   exact⟨p.toNat,by omega,by omega,by simpa using h3⟩
section
variable {m : aC} (hm : m.ok) {N : Nat} {b : Bel} (hb : BOk m N b) {s : Wh} (hs : s.frm.length = m.aa.length) {l : List Mch}
variable (hl : ∀ y ∈ l, y.pl.length ≤ m.aa.length ∧ 1 ≤ y.pl.length ∧ ∀ x ∈ y.pl, 0 ≤ x ∧ x < m.aa.length) {t a : Int} (t0 : 0 ≤ t) (t1 : t ≤ 10000) (a0 : 0 ≤ a) (a1 : a ≤ 10000) (d : aF)
include hm hb hs hl t0 t1 a0 a1
omit hm hb t0 t1 a1 in
end
def aF.skip(d:aF)(n:Int):Nat→aF
 | 0=>d
 | k+1=>((d.skip n k).next n).2
end Go.Ev
namespace Go.Ev
open Go
variable [Lib] [bX] [bJ] [iK]
end Go.Ev
namespace Go.Ev
open Go
variable [Lib] [bX] [bJ] [fR] [fS] [iK] [fy] [fo] [gU] [fM]
theorem K1(a b:List Int):∀n j,j<n→nth (Me a b n) j=min (nth a j) (nth b j)
 | 0,j,h=>by omega
 | n+1,j,h=>by
   have ln:=pQ a b n
   by_cases e:j=n
   · subst e
     exact bD (by simp only[Me];rw[aLh (by omega),ln];simp)
   · have ih:=K1 a b n j (by omega)
     rw[← ih]
     have:(Me a b n)[j]?=some (nth (Me a b n) j):=c7 (by omega)
     exact bD (by simp only[Me];rw[aLg (by omega)];exact this)
theorem MD{m:aC}(h:m.ok){a b:Wh}(ha:dF m a=true)(hb:dF m b=true):(qg a b).2=0∧dF m (qg a b).1=true∧(qg a b).1.frm.length=m.aa.length∧∀j,j<m.aa.length→nth (qg a b).1.frm j=min (nth a.frm j) (nth b.frm j):=by
 obtain⟨a1,a2,a3, -⟩:=eM ha
 obtain⟨b1,b2,b3, -⟩:=eM hb
 have ca:=Cf h ha
 have cb:=Cf h hb
 have e:qg a b=(⟨max a.time b.time,Me a.frm b.frm a.frm.length⟩,0):=by unfold qg;rw[if_pos (by omega)]
 rw[e]
 have mn:=fun j (hj:j<m.aa.length)=>K1 a.frm b.frm a.frm.length j (by omega)
 refine⟨rfl,Ce h (by simp only[pQ];exact a1) (by unfold inT at *;simp only;omega) (fun x hx=>?_) ?_,by simp only[pQ];exact a1,mn⟩
 · obtain⟨j,hj⟩:=aLf.1 hx
   have jl:=(aLe.1 hj).1
   simp only[pQ]at jl
   have:=mn j (by omega)
   rw[bD hj]at this
   have x1:=a3 _ (ai (l:=a.frm) (j:=j) jl)
   have x2:=b3 _ (ai (l:=b.frm) (j:=j) (by omega))
   unfold plT inT at*
   omega
 · intro k hk back hi h1 h2 h3
   have r1:=Road.zV (h.rs _ (ai hk)) back
   have r2:=Road.DL (h.rs _ (ai hk)) back
   simp only at h2 h3 ⊢
   rw[mn _ (by omega)]at h2 h3 ⊢
   rw[mn _ (by omega)]
   have y1:=ca k hk back rfl h1
   have y2:=cb k hk back rfl h1
   omega
theorem Qh{m:aC}(h:m.ok){w:Wh}(hv:dF m w=true)(l:List Int)(a b bl:Int):
 (DO m w l a b bl=(⟨b,dE m b none (dE m (b-bl) (some l) (I4 w.frm l l.length))⟩,0)∧mr m w l a b=0∧w.time≤b∧max a w.time<b-bl∧inT bl∧
  (dE m (b-bl) (some l) (I4 w.frm l l.length)).length=m.aa.length∧(∀x∈dE m (b-bl) (some l) (I4 w.frm l l.length),plT x))∨
 ((DO m w l a b bl).1=w∧((DO m w l a b bl).2=0→w.time≤b∧mr m w l a b=0)):=by
 by_cases c0:mr m w l a b=0
 · obtain⟨-,h0,hs,ia,ib,hab⟩:=oz c0
   by_cases c1:inT bl
   · by_cases c2:b<w.time
     · right;unfold DO;rw[if_neg (by simpa using c0),if_neg (fun x=>x c1),if_pos c2];exact⟨rfl,by simp⟩
     · by_cases c3:b-max a w.time≤bl
       · right;unfold DO;rw[if_neg (by simpa using c0),if_neg (fun x=>x c1),if_neg c2,if_pos c3];exact⟨rfl,fun _=>⟨by omega,c0⟩⟩
       · left
         obtain⟨v1,v2,v3, -⟩:=eM hv
         have pl:∀x∈I4 w.frm l l.length,plT x:=by
          have key:∀k,∀x∈I4 w.frm l k,plT x:=by
           intro k
           induction k with
           | zero=>exact v3
           | succ k ih=>
             intro x hx
             rcases aLk hx with hx | hx
             · exact ih x hx
             · exact .inl hx
          exact key _
         have bn:bnd (I4 w.frm l l.length):=fun x hx=>mW (pl x hx)
         unfold inT at ia c1 v2 ib
         refine⟨?_,c0,by omega,by omega,c1,(Cd h (by rw[yn];exact v1) bn).1,DQ h plT (by rw[yn];exact v1) bn pl (fun x h1 h2=> .inr ⟨by omega,h2⟩)⟩
         unfold DO;rw[if_neg (by simpa using c0),if_neg (fun x=>x (by unfold inT;omega)),if_neg c2,if_neg c3]
   · right;unfold DO;rw[if_neg (by simpa using c0),if_pos c1];exact⟨rfl,by simp⟩
 · right;unfold DO;rw[if_pos c0];exact⟨rfl,fun h=>absurd h c0⟩
theorem Qi{m:aC}(h:m.ok){w:Wh}(hv:dF m w=true)(l:List Int)(a b bl:Int):dF m (DO m w l a b bl).1=true:=by
 rcases Qh h hv l a b bl with⟨e,c0, -,hm,hbl,ln,pl⟩ | ⟨e, -⟩
 · obtain⟨-, -,hs,ia,ib,hab⟩:=oz c0
   rw[e]
   exact rZ h ln pl (by unfold inT at ib;omega) (Int.le_refl _) ib
 · rw[e];exact hv
end Go.Ev
namespace Go.Ev
open Go
variable [Lib] [bX] [bJ] [fR] [fS] [iK] [fy] [fo] [gU] [fM] [cV] [cI]
def lexB:List Int→List Int→Bool
 | _,[]=>false
 | [],_::_=>true
 | a::r,b::s=>decide (a<b)||(decide (a=b)&&lexB r s)
theorem yB(a:Int)(l:List Int)(j:Nat):nth (a::l) (j+1)=nth l j:=by simp[nth]
theorem yC(a:Int)(l:List Int):nth (a::l) 0=a:=by simp[nth]
theorem sA:∀a b:List Int,um a b=lexB a b
 | a,[]=>by
   unfold um lexB
   simp
 | [],b::s=>by
   unfold um lexB
   simp
 | a::r,b::s=>by
   have ih:=sA r s
   unfold um at ih ⊢
   have e:min (a::r).length (b::s).length=min r.length s.length+1:=by simp only[List.length_cons];omega
   rw[e,List.range_succ_eq_map,List.find?_cons]
   simp only[yC]
   by_cases h:a=b
   · subst h
     simp only[ne_eq,not_true_eq_false,decide_false,aLt,List.find?_map,lexB,decide_true,Bool.true_and,Int.lt_irrefl,Bool.false_or]
     rw[← ih]
     have:((fun j=>decide (¬nth (a::r) j=nth (a::s) j)) ∘ Nat.succ)=fun j=>decide (nth r j≠nth s j):=by
      funext j
      simp only[Function.comp,Nat.succ_eq_add_one,yB,ne_eq]
     rw[this]
     cases (List.range (min r.length s.length)).find? (fun j=>decide (nth r j≠nth s j))with
     | some j=>simp only[aLw,Nat.succ_eq_add_one,yB]
     | none=>simp only[Option.map_none,List.length_cons,Nat.add_lt_add_iff_right]
   · simp only[ne_eq,h,not_false_eq_true,decide_true,lexB,decide_false,Bool.false_and,Bool.or_false,yC]
theorem lex_trans:∀ {a b c:List Int},lexB a b=true→lexB b c=true→lexB a c=true
 | _,_,[],_,h=>by simp[lexB]at h
 | [],_,_::_,_,_=>rfl
 | _::_,[],_,h,_=>by simp[lexB]at h
 | a::r,b::s,c::t,h1,h2=>by
   simp only[lexB,Bool.or_eq_true,aLr,decide_eq_true_eq]at h1 h2 ⊢
   rcases h1 with h1 | ⟨h1,k1⟩
   · rcases h2 with h2 | ⟨h2,k2⟩
     · left;omega
     · left;omega
   · rcases h2 with h2 | ⟨h2,k2⟩
     · left;omega
     · right;exact⟨by omega,lex_trans k1 k2⟩
theorem lex_irrefl:∀a:List Int,lexB a a=false
 | []=>rfl
 | a::r=>by simp[lexB,lex_irrefl r]
theorem Hg:∀a b:List Int,lexB a b=true∨a=b∨lexB b a=true
 | [],[]=> .inr (.inl rfl)
 | [],_::_=> .inl rfl
 | _::_,[]=> .inr (.inr rfl)
 | a::r,b::s=>by
   simp only[lexB,Bool.or_eq_true,aLr,decide_eq_true_eq,List.cons.injEq]
   rcases Hg r s with h | h | h
   · by_cases c:a<b
     · exact .inl (.inl c)
     · by_cases c2:a=b
       · exact .inl (.inr ⟨c2,h⟩)
       · exact .inr (.inr (.inl (by omega)))
   · by_cases c:a<b
     · exact .inl (.inl c)
     · by_cases c2:a=b
       · exact .inr (.inl ⟨c2,h⟩)
       · exact .inr (.inr (.inl (by omega)))
   · by_cases c:a<b
     · exact .inl (.inl c)
     · by_cases c2:a=b
       · exact .inr (.inr (.inr ⟨c2.symm,h⟩))
       · exact .inr (.inr (.inl (by omega)))
structure WV(m:aC)(first:List Int)(x:World):Prop where
 pm:x.tags.Perm first
 wl:x.whr.length=first.length
 wv:∀w∈x.whr,dF m w=true
structure BV(m:aC)(first:List Int)(ws:List World):Prop where
 pr:iu first=true
 f1:1≤first.length
 f2:first.length≤12
 wv:∀x∈ws,WV m first x
 up:ws.Pairwise fun x y=>lexB x.tags y.tags=true
theorem Jm{a b:List Int}(h:a.Perm b)(hb:iu b=true):iu a=true:=by
 rw[Cv]at hb ⊢
 exact⟨h.nodup_iff.2 hb.1,fun x hx=>hb.2 x (h.mem_iff.1 hx)⟩
theorem BV.bel{m:aC}{first:List Int}{ws:List World}(h:BV m first ws)(h1:1≤ws.length)(h2:ws.length≤24):qV m ⟨ws⟩=true:=by
 have w0:=h.wv _ (ai (l:=ws) (j:=0) (by omega))
 have l0:=w0.pm.length_eq
 simp only[qV,aLr,decide_eq_true_eq,aLx,aLu,qU,Bool.or_eq_true,ND]
 have f1:=h.f1
 have f2:=h.f2
 refine⟨⟨⟨h1,h2⟩,by omega⟩,fun i hi=>?_⟩
 have wi:=h.wv _ (ai (l:=ws) (j:=i) hi)
 have li:=wi.pm.length_eq
 have wl:=wi.wl
 refine⟨⟨⟨by omega,Jm wi.pm h.pr⟩,?_⟩,fun k hk=>⟨?_,?_⟩⟩
 · by_cases c:i=0
   · exact .inl c
   · right
     rw[sA]
     have:=(List.pairwise_iff_getElem.1 h.up) (i-1) i (by omega) hi (by omega)
     rwa [← bD (aLc (by omega:i-1<ws.length)),←bD (aLc hi)]at this
 · exact m7.2 (w0.pm.symm.mem_iff.1 (wi.pm.mem_iff.1 (ai hk)))
 · exact wi.wv _ (ai (by omega))
theorem uz{m:aC}{ws:List World}(h:qV m ⟨ws⟩=true):BV m (nth ws 0).tags ws:=by
 obtain⟨h1,h2,h3,h4,h5⟩:=gH h
 simp only at h1 h2 h3 h4 h5
 have p0:=(kc (h5 0 (by omega))).2.2.1
 refine⟨p0,h3,h4,fun x hx=>?_,?_⟩
 · obtain⟨i,hi⟩:=aLf.1 hx
   have il:=(aLe.1 hi).1
   obtain⟨w1,w2,w3,w4⟩:=kc (h5 i il)
   rw[bD hi]at w1 w2 w3 w4
   refine⟨wA (kr w3) (kr p0) w1 fun y hy=>?_,w2,fun w hw=>?_⟩
   · obtain⟨j,hj⟩:=aLf.1 hy
     have:=(w4 j (aLe.1 hj).1).1
     rwa [bD hj]at this
   · obtain⟨j,hj⟩:=aLf.1 hw
     have:=(w4 j (by rw[w1,←w2];exact(aLe.1 hj).1)).2
     rwa [bD hj]at this
 · have key:∀d i,i+d+1<ws.length→lexB (nth ws i).tags (nth ws (i+d+1)).tags=true:=by
    intro d
    induction d with
    | zero=>
      intro i hi
      have:=h5 (i+1) hi
      simp only[qU,aLr,Bool.or_eq_true,decide_eq_true_eq]at this
      have:=this.1.2
      rw[← sA]
      simpa using this
    | succ d ih=>
      intro i hi
      have a:=ih i (by omega)
      have:=h5 (i+(d+1)+1) hi
      simp only[qU,aLr,Bool.or_eq_true,decide_eq_true_eq]at this
      have b:=this.1.2.resolve_left (by omega)
      rw[sA,show i+(d+1)+1-1=i+d+1 by omega]at b
      exact lex_trans a b
   rw[List.pairwise_iff_getElem]
   intro i j hi hj hij
   have:=key (j-i-1) i (by omega)
   rw[show i+(j-i-1)+1=j by omega,bD (aLc hi),bD (aLc hj)]at this
   exact this
end Go.Ev
namespace Go.Ev.K
open Go.Ev
end Go.Ev.K
namespace Go.Ev
class fB [Lib]:Prop where
namespace K
variable [Lib] [fB]
end K
end Go.Ev
namespace Go.Ev.K
open Go.Ev
def Cw:C:= (.its [u (.bin .lss v7 v6)] [] 0 .skip (.exit 0) (.seq (.blk 1 (q [a 2 v5 v7,h 2 l0,w 4 (.al [z0,.nil] []),u (.st l0 l1 2 [])] [] (.reg [f 1 v3,g l0,f 0 v4,g l0,f 1 v4,g l0,u (.ca N.aU 0 [] [.l 0]),u (.bd [z0,.nil] [(0,1,.l 3),(1,1,.l 0)]),u (.bs [.l 0] 2),u (.app l7 l0 true 2),f 1 v3,u (.st l0 l1 1 [])] [(1,7),(1,9),(3,7)]))) (.reg [u (.bin .add v7 (.i 1)),x 7 l0] [])))
def C7:C:= .loop true [0,1,4] K.Cw
def lC:Fn:= { aP:=1,vars:=[0,1,2,3,5,11,12,13],body:=(q [w 1 (.bx v0 2),w 2 (.al [.nil,.nil] [])] [] (q [f 0 v1,g l0,u (.ca N.aU 0 [] [.l 0]),u (.bd [.nil,.nil] [(0,1,.l 0)]),w 3 (.al [.nil,.nil] [(1,2)]),u (.st l0 l1 2 [(1,2)])] [] (.seq (q [f 1 v1,w 5 (.ld l0 1 false),w 6 (.ln l0),x 7 (.i 0)] [] (.blk 0 K.C7)) (q [h 2 v3,u (.st v2 l0 2 [])] [] .ret)))),res:=[(2,some (2,true))]}
def gk:C:= (.its [u (.bin .lss v20 v19)] [] 0 .skip (.exit 2) (.seq (.blk 3 (q [m v20,a 2 v18 v20,h 2 l0,w 12 (.al [z0,.nil] []),x 11 l3,u (.st l1 l2 2 [])] [] (q [h 2 v3,h 2 v12,m v2,u (.ca N.ed 0 [] [.l 2,.l 1,.l 0]),m l0,u (.ex l0 0),u (.ex l1 1),w 13 (.al [z0,.nil] []),u (.st l0 l2 2 []),x 14 l2] [] (.seq (.ite [m v14,u (.bin .eql l0 (.i 6))] [] 0 (q [h 1 v4,m v14,u (.st v5 l1 1 []),x 6 l1] [] .ret) .skip) (.seq (.ite [m v8,u (.bin .eql l0 (.i 0))] [] 0 (.reg [m v14,x 8 l0] []) .skip) (.reg [f 1 v10,g l0,m v11,h 2 v13,a 2 l2 l1,u (.st l0 l1 2 [])] [])))))) (.reg [u (.bin .add v20 (.i 1)),x 20 l0] [])))
def qp:C:= .loop true [0,1,6,9,11,12,13,14] K.gk
def hX:C:= (.its [u (.bin .lss v17 v16)] [] 0 .skip (.exit 0) (.seq (.blk 1 (q [a 2 v15 v17,h 2 l0,w 9 (.al [.nil,.nil] []),u (.st l0 l1 2 [])] [] (q [h 2 v9,u (.ca N.eD 1 [] [.l 0]),w 10 (.al [.nil,.nil] []),u (.st l0 l1 2 [])] [] (.seq (q [f 1 v9,w 18 (.ld l0 1 false),w 19 (.ln l0),x 20 (.i 0)] [] (.blk 2 K.qp)) (.reg [f 0 v7,g l0,h 2 v10,u (.bs [.l 0] 2),u (.app l2 l0 true 2),f 0 v7,u (.st l0 l1 1 [])] []))))) (.reg [u (.bin .add v17 (.i 1)),x 17 l0] [])))
def qq:C:= .loop true [0,1,6,9,10,11,12,13,14,18,19,20] K.hX
def fJ:Fn:= { aP:=3,vars:=[0,1,2,3,4,6,7,8,9,11,12,13,14,15,16,29,30,31,38,39,40],body:=(q [w 3 (.bx v0 2),w 4 (.bx v1 1),w 5 (.al [.nil] []),x 6 (.i 0)] [] (.seq (.ite [h 2 v3,u (.ca N.ec 0 [] [.l 0]),u (.un .not l0),m l0,y 0 false (.fa v4 0),i 1 false l0,y 2 false (.ln l0),y 3 false (.ca N.eI 0 [] [.l 0,.i 1,.i 24]),y 4 false (.un .not l0),u (.pk l5 (.b true) l0)] [] 0 (q [h 1 v4,u (.st v5 l0 1 []),x 6 (.i 6)] [] .ret) .skip) (q [w 7 (.al [.nil] [(0,2)])] [] (q [x 8 (.i 0)] [] (.seq (q [f 0 v4,w 15 (.ld l0 1 false),w 16 (.ln l0),x 17 (.i 0)] [] (.blk 0 K.qq)) (.seq (.ite [m v8,u (.bin .neq l0 (.i 0))] [] 0 (q [h 1 v4,m v8,u (.st v5 l1 1 []),x 6 l1] [] .ret) .skip) (q [h 1 v7,u (.st v5 l0 1 []),x 6 (.i 0)] [] .ret))))))),res:=[(5,some (1,true)),(6,none)]}
def kd:C:= (.seq (.ite [m v8,f 0 v4,g l0,m v7,a 2 l1 l0,f 1 l0,g l0,u (.ln l0),u (.bin .lss l7 l0)] [] 0 .skip (.exit 2)) (.seq (.blk 3 (.ite [f 0 v4,g l0,m v7,a 2 l1 l0,f 1 l0,g l0,m v8,a 2 l1 l0,h 2 l0,f 0 v3,g l0,u (.ln l0),u (.ca N.dT 0 [] [.l 3,.l 0]),u (.un .not l0)] [] 0 (q [h 1 v4,u (.st v5 l0 1 []),x 6 (.i 6)] [] .ret) .skip)) (.reg [m v8,u (.bin .add l0 (.i 1)),x 8 l0] [])))
def qs:C:= .loop false [0,1,6,9,10,11,12,13] K.kd
def kf:C:= (.seq (.ite [m v7,f 0 v4,g l0,u (.ln l0),u (.bin .lss l3 l0)] [] 0 .skip (.exit 0)) (.seq (.blk 1 (q [x 8 (.i 0)] [] (.blk 2 K.qs))) (.reg [m v7,u (.bin .add l0 (.i 1)),x 7 l0] [])))
def qt:C:= .loop false [0,1,6,8,9,10,11,12,13] K.kf
def jf:C:= (.seq (.ite [m v11,f 0 v4,g l0,m v10,a 2 l1 l0,f 1 l0,g l0,u (.ln l0),u (.bin .lss l7 l0)] [] 0 .skip (.exit 6)) (.seq (.blk 7 (q [w 12 (.al [z0,.nil] []),h 2 v3,f 0 v4,g l0,m v10,a 2 l1 l0,f 1 l0,g l0,m v11,a 2 l1 l0,h 2 l0,m v2,u (.ca N.fH 0 [] [.l 10,.l 1,.l 0]),m l0,u (.ex l0 0),u (.ex l1 1),u (.st (.l 15) l1 2 []),x 13 l1] [(0,13)] (.seq (.ite [m v13,u (.bin .neq l0 (.i 0))] [] 0 (q [h 1 v4,m v13,u (.st v5 l1 1 []),x 6 l1] [] .ret) .skip) (.reg [f 0 v9,g l0,m v10,a 2 l1 l0,f 1 l0,g l0,m v11,h 2 v12,a 2 l2 l1,u (.st l0 l1 2 [])] [])))) (.reg [m v11,u (.bin .add l0 (.i 1)),x 11 l0] [])))
def wB:C:= .loop false [0,1,6,7,8,12,13] K.jf
def mF:C:= (.seq (.ite [m v10,f 0 v4,g l0,u (.ln l0),u (.bin .lss l3 l0)] [] 0 .skip (.exit 4)) (.seq (.blk 5 (q [x 11 (.i 0)] [] (.blk 6 K.wB))) (.reg [m v10,u (.bin .add l0 (.i 1)),x 10 l0] [])))
def wC:C:= .loop false [0,1,6,7,8,11,12,13] K.mF
def eO:Fn:= { aP:=3,vars:=[0,1,2,3,4,6,7,8,9,10,11,12,13,14],body:=(q [w 3 (.bx v0 2),w 4 (.bx v1 1),w 5 (.al [.nil] []),x 6 (.i 0)] [] (q [h 1 v4,u (.ca N.eT 0 [] [.l 0]),u (.st v4 l0 1 [])] [] (.seq (.ite [h 2 v3,u (.ca N.di 0 [] [.l 0]),u (.bin .neq l0 (.i 0)),m l0,y 0 false (.fa v4 0),i 1 false l0,y 2 false (.ln l0),y 3 false (.bin .lss l0 (.i 1)),u (.pk l4 (.b true) l0),m l0,y 0 false (.fa v4 0),i 1 false l0,y 2 false (.ln l0),y 3 false (.bin .gtr l0 (.i 24)),u (.pk l4 (.b true) l0)] [] 0 (q [h 1 v4,u (.st v5 l0 1 []),x 6 (.i 6)] [] .ret) .skip) (.seq (q [x 7 (.i 0)] [] (.blk 0 K.qt)) (q [h 1 v4,u (.ca N.fQ 2 [] [.l 0]),w 9 (.al [.nil] []),u (.st l0 l1 1 [])] [] (.seq (q [x 10 (.i 0)] [] (.blk 4 K.wC)) (q [h 1 v9,u (.st v5 l0 1 []),x 6 (.i 0)] [] .ret))))))),res:=[(5,some (1,true)),(6,none)]}
def mG:C:= (.its [u (.bin .lss v7 v6)] [] 0 .skip (.exit 0) (.seq (.blk 1 (q [a 2 v5 v7,h 2 l0,w 4 (.al [z0,.nil] []),u (.st l0 l1 2 [])] [] (.reg [f 1 v3,g l0,f 0 v4,g l0,f 1 v4,g l0,u (.ca N.aU 1 [] [.l 0]),u (.bd [z0,.nil] [(0,1,.l 3),(1,1,.l 0)]),u (.bs [.l 0] 2),u (.app l7 l0 true 2),f 1 v3,u (.st l0 l1 1 [])] [(1,7),(1,9),(3,7)]))) (.reg [u (.bin .add v7 (.i 1)),x 7 l0] [])))
def q7:C:= .loop true [0,1,4] K.mG
def eD:Fn:= { aP:=1,vars:=[0,1,2,3,5,11,12,13],body:=(q [w 1 (.bx v0 2),w 2 (.al [.nil,.nil] [])] [] (q [f 0 v1,g l0,u (.ca N.aU 1 [] [.l 0]),u (.bd [.nil,.nil] [(0,1,.l 0)]),w 3 (.al [.nil,.nil] [(1,2)]),u (.st l0 l1 2 [(1,2)])] [] (.seq (q [f 1 v1,w 5 (.ld l0 1 false),w 6 (.ln l0),x 7 (.i 0)] [] (.blk 0 K.q7)) (q [h 2 v3,u (.st v2 l0 2 [])] [] .ret)))),res:=[(2,some (2,true))]}
end Go.Ev.K
namespace Go.Ev
class eu [Lib]:Prop where
 yD:Lib.fs N.lC=some K.lC
 sB:Lib.fs N.fJ=some K.fJ
 sC:Lib.fs N.eO=some K.eO
 nU:Lib.fs N.eD=some K.eD
namespace K
variable [Lib] [eu]
theorem yD:Lib.fs N.lC=some K.lC:=eu.yD
theorem sB:Lib.fs N.fJ=some K.fJ:=eu.sB
theorem sC:Lib.fs N.eO=some K.eO:=eu.sC
theorem nU:Lib.fs N.eD=some K.eD:=eu.nU
end K
end Go.Ev
namespace Go.Ev
open Go
variable [Lib] [bX] [bJ] [fR] [fS] [iK] [fy] [fo] [gU] [fM] [cV] [cI] [fB] [eu]
theorem ME(x:World)(h:x.sz):∀z0 z1 z4:D,exS aH K.q7 ⟨[z0,z1,.bp 1 0,.bp 3 0,z4,.t (.sl (x.whr.map Wh.e)),I x.whr.length,I 0],[.box [.t (tL x.tags),.t (.sl (x.whr.map Wh.e))],.box [.nil,.nil],pT x.tags,.box [.ref 2 0 x.tags.length,.ref 5 0 0],.arr 2 false 0 [],.arr 2 false 0 []]⟩=
 some (.exit 0,⟨[.und,.und,.bp 1 0,.bp 3 0,.und,.t (.sl (x.whr.map Wh.e)),I x.whr.length,I x.whr.length],[.box [.t (tL x.tags),.t (.sl (x.whr.map Wh.e))],.box [.nil,.nil],pT x.tags,.box [.ref 2 0 x.tags.length,.ref 5 0 x.whr.length],.arr 2 false 0 [],.arr 2 false 0 ((x.whr.map Wh.e).map .t)]⟩):=by
 intro z0 z1 z4
 obtain⟨tags,whr⟩:=x
 obtain⟨h1,h2,h3⟩:=h
 simp only at h1 h2 h3 ⊢
 have tk:whr.take whr.length=whr:=by simp
 refine bz (fun j=>⟨[.und,.und,.bp 1 0,.bp 3 0,.und,.t (.sl (whr.map Wh.e)),I whr.length,I j],[.box [.t (tL tags),.t (.sl (whr.map Wh.e))],.box [.nil,.nil],pT tags,.box [.ref 2 0 tags.length,.ref 5 0 (whr.take j).length],.arr 2 false 0 [],.arr 2 false 0 (((whr.take j).map Wh.e).map .t)]⟩) whr.length rfl ?_ ?_ (by simp)
 · intro j hj
   have c:=yu (nth whr j).frm (h3 _ (ai hj))
   have ex:(whr.map Wh.e)[j]?=some (nth whr j).e:=bR _ hj
   have lt:(whr.take j).length=j:=by rw[List.length_take];omega
   have tk:whr.take (j+1)=whr.take j++[nth whr j]:=ox hj
   generalize nth whr j=w at*
   generalize whr.take j=pre at*
   obtain⟨time,frm⟩:=w
   simp only[pT]at*
   simp(disch:=omega)only[go_sem,K.mG,↓reduceIte,ex,c,lt,tk,List.map_append,List.map_cons,List.map_nil,aLv,List.length_cons,List.length_nil,reduceAdd,reduceSub]
 · simp only[pT]
   simp(disch:=omega)only[go_sem,K.mG,↓reduceIte,tk,reduceAdd,reduceSub]
theorem Tq(x:World)(h:x.sz):aH 1 N.eD [.t x.e] []=some (.agg [.ref 0 0 x.tags.length,.ref 1 0 x.whr.length],[.arr 1 false 0 ((x.tags.map (T.int .i64)).map .t),.arr 2 false 0 ((x.whr.map Wh.e).map .t)]):=by
 refine av K.nU rfl ?_
 have loop:=ME x h
 have c:=yu x.tags h.1
 obtain⟨tags,whr⟩:=x
 obtain⟨h1,h2,h3⟩:=h
 simp only[pT]at h1 h2 h3 loop c ⊢
 simp(disch:=omega)only[go_sem,K.eD,↓reduceIte,loop,c,reduceAdd,reduceSub]
end Go.Ev
namespace Go.Ev
open Go
variable [Lib] [bX] [bJ] [fR] [fS] [iK] [fy] [fo] [gU] [fM]
theorem Jn{m:aC}(h:m.ok){w:Wh}{t:Int}(h0:(cO m w t).2=0):dF m (cO m w t).1=true:=by
 unfold cO at h0 ⊢
 cases hp:ky w m.aa.length with
 | false=>rw[hp]at h0;simp at h0
 | true=>
   rw[hp]at h0
   rw[if_neg (by simp)]at h0 ⊢
   split at h0
   · simp at h0
   · rename_i hc
     rw[if_neg hc]
     obtain⟨p1,p2,p3⟩:=lB hp
     unfold inT at p2
     exact rZ h (by omega) p3 (by omega) (Int.le_refl _) (by unfold inT;omega)
end Go.Ev
namespace Go.Ev
open Go
variable [Lib] [bX] [bJ] [fR] [fS] [iK] [fy] [fo] [gU] [fM] [cV] [cI]
theorem MF{l:List Int}{i j:Nat}(hi:i<l.length)(hj:j<l.length):(Mx l i j).Perm l:=by
 have:=Array.swap_perm (xs:=l.toArray) (i:=i) (j:=j) (by simpa using hi) (by simpa using hj)
 rw[Array.perm_iff_toList_perm]at this
 unfold Mx
 rw[bD (aLc hi),bD (aLc hj)]
 simpa [Array.swap]using this
theorem yE{m:aC}{l:List Wh}(hl:∀w∈l,dF m w=true)(i:Nat){x:Wh}(hx:i<l.length→dF m x=true):∀w∈l.set i x,dF m w=true:=by
 intro w hw
 by_cases h:i<l.length
 · rcases aLk hw with a | rfl
   · exact hl w a
   · exact hx h
 · rw[List.set_eq_of_length_le (by omega)]at hw;exact hl w hw
theorem Cx{m:aC}(h:m.ok){w:Wh}(hv:dF m w=true)(t:Int):dF m (n9 w t).1=true:=by
 unfold n9
 split
 · exact hv
 · obtain⟨a,b,c, -⟩:=eM hv
   have cl:=Cf h hv
   unfold inT at b
   exact Ce h a (by simp only;unfold inT;omega) c (KI (t':=t) (by omega) cl)
theorem Qj{m:aC}{first:List Int}{x:World}(h:WV m first x)(tag:Int){w:Wh}(hw:(cE x.tags tag).toNat<x.whr.length→dF m w=true):WV m first (Jf tag x w):=
 ⟨h.pm,by simp[Jf,h.wl],yE h.wv _ hw⟩
def agQ(m:aC)(tag:Int)(l:List Int)(a b:Int)(x:World):Option World:=
 if(DY m tag l a b x).2=43 then none else some (if(DY m tag l a b x).2=0 then Jf tag x (DY m tag l a b x).1 else x)
theorem K3(m:aC)(tag:Int)(l:List Int)(a b:Int)(ws:List World):∀j,j≤ws.length→pg m tag l a b ws j=(ws.take j).filterMap (agQ m tag l a b)
 | 0,_=>by simp[pg]
 | j+1,h=>by
   rw[ox (by omega),List.filterMap_append]
   simp only[pg,K3 m tag l a b ws j (by omega),G0,agQ,List.filterMap_cons,List.filterMap_nil]
   split<;>simp_all
theorem K4(m:aC)(tag:Int)(l:List Int)(a b bl:Int)(ws:List World):∀j,j≤ws.length→qZ m tag l a b bl ws j=(ws.take j).map fun x=>if(DZ m tag l a b bl x).2=0 then Jf tag x (DZ m tag l a b bl x).1 else x
 | 0,_=>by simp[qZ]
 | j+1,h=>by
   rw[ox (by omega),List.map_append]
   simp only[qZ,K4 m tag l a b bl ws j (by omega),Jg,List.map_cons,List.map_nil]
theorem Jo{m:aC}(hm:m.ok){first:List Int}{tag:Int}{l:List Int}{a b:Int}{x y:World}(h:WV m first x)(e:agQ m tag l a b x=some y):WV m first y∧y.tags=x.tags:=by
 unfold agQ at e
 split at e
 · cases e
 · simp only[Option.some.injEq]at e
   subst e
   split
   · exact⟨Qj h tag fun hl=>Qf hm (h.wv _ (ai hl)) l a b,rfl⟩
   · exact⟨h,rfl⟩
theorem aew{m:aC}(hm:m.ok){first:List Int}{ws:List World}(h:BV m first ws)(tag:Int)(l:List Int)(a b:Int):BV m first (pg m tag l a b ws ws.length):=by
 rw[K3 m tag l a b ws _ (aLs _),List.take_length]
 refine⟨h.pr,h.f1,h.f2,fun y hy=>?_,?_⟩
 · obtain⟨x,hx,e⟩:=List.mem_filterMap.1 hy
   exact(Jo hm (h.wv x hx) e).1
 · rw[List.pairwise_filterMap]
   refine(List.Pairwise.imp_of_mem ?_ h.up)
   intro x y hx hy hxy x' ex y' ey
   rw[(Jo hm (h.wv x hx) ex).2,(Jo hm (h.wv y hy) ey).2]
   exact hxy
theorem aex{m:aC}(hm:m.ok){first:List Int}{ws:List World}(h:BV m first ws)(tag:Int)(l:List Int)(a b bl:Int):BV m first (qZ m tag l a b bl ws ws.length):=by
 rw[K4 m tag l a b bl ws _ (aLs _),List.take_length]
 have tg:∀x:World,(if(DZ m tag l a b bl x).2=0 then Jf tag x (DZ m tag l a b bl x).1 else x).tags=x.tags:=by
  intro x;split<;>rfl
 refine⟨h.pr,h.f1,h.f2,fun y hy=>?_,?_⟩
 · obtain⟨x,hx,rfl⟩:=List.mem_map.1 hy
   have wx:=h.wv x hx
   split
   · exact Qj wx tag fun hl=>Qi hm (wx.wv _ (ai hl)) l a b bl
   · exact wx
 · rw[List.pairwise_map]
   refine h.up.imp fun{x y} hxy=>?_
   rw[tg,tg];exact hxy
theorem Ts{m:aC}(hm:m.ok){first:List Int}{x:World}(h:WV m first x){i j:Nat}(hi:i<first.length)(hj:j<first.length)(t:Int):WV m first (xj i j t x):=by
 have wl:=h.wl
 have tl:=h.pm.length_eq
 refine⟨(MF (by omega) (by omega)).trans h.pm,by simp[xj,wl],?_⟩
 exact yE (yE h.wv i fun hl=>Cx hm (h.wv _ (ai hl)) t) j fun hl=>Cx hm (h.wv _ (ai (by simpa using hl))) t
theorem yF{m:aC}(hm:m.ok){first:List Int}{ws:List World}(h:∀x∈ws,WV m first x){i j:Nat}(hi:i<first.length)(hj:j<first.length)(t:Int):∀k,k≤ws.length→∀x∈j3 i j t ws k,WV m first x
 | 0,_,x,hx=>h x hx
 | k+1,hk,x,hx=>by
   simp only[j3,Cr]at hx
   split at hx
   · rcases List.mem_append.1 hx with hx | hx
     · exact yF hm h hi hj t k (by omega) x hx
     · rw[List.mem_singleton.1 hx]
       exact Ts hm (h _ (ai (by omega))) hi hj t
   · exact yF hm h hi hj t k (by omega) x hx
theorem Cy{m:aC}(hm:m.ok){a b:List Wh}(ha:∀w∈a,dF m w=true)(hb:∀w∈b,dF m w=true):∀p,p≤a.length→p≤b.length→∀w∈nT a b p,dF m w=true
 | 0,_,_,w,hw=>ha w hw
 | p+1,h1,h2,w,hw=>by
   refine yE (Cy hm ha hb p (by omega) (by omega)) p (fun _=>?_) w hw
   exact(MD hm (ha _ (ai (by omega))) (hb _ (ai (by omega)))).2.1
theorem Tt{out:List World}{x:World}{k:Nat}(h:k<je out x):lexB (nth out k).tags x.tags=true:=by
 unfold je at h
 split at h
 · rename_i j hf
   rw[List.find?_range_eq_some]at hf
   have:=hf.2.2 k h
   rw[← sA];simpa using this
 · rename_i hf
   have:=List.find?_eq_none.1 hf k (aLu.2 h)
   rw[← sA];simpa using this
theorem Tu{out:List World}{x:World}(h:je out x<out.length):lexB (nth out (je out x)).tags x.tags=false:=by
 unfold je at h ⊢
 split
 · rename_i j hf
   rw[List.find?_range_eq_some]at hf
   have:=hf.1
   rw[← sA];simpa using this
 · rename_i hf
   rw[hf]at h;simp at h
theorem Tv{m:aC}(hm:m.ok){first:List Int}{out:List World}(h:BV m first out){x:World}(hx:WV m first x):BV m first (sr out x):=by
 have kl:=EN out x
 unfold sr
 split
 · rename_i c
   obtain⟨c1,c2⟩:=c
   have wk:=h.wv _ (ai c1)
   have w1:=wk.wl
   have w2:=hx.wl
   refine⟨h.pr,h.f1,h.f2,fun y hy=>?_,?_⟩
   · rcases aLk hy with a | rfl
     · exact h.wv y a
     · exact⟨hx.pm,by rw[D0,q6];exact w1,Cy hm wk.wv hx.wv _ (by omega) (by omega)⟩
   · have u:=h.up
     rw[← List.pairwise_map (f:=World.tags) (R:=fun a b=>lexB a b=true)]at u ⊢
     rw[List.map_set]
     have e:(out.map World.tags).set (je out x) x.tags=out.map World.tags:=by
      apply List.ext_getElem?
      intro i
      by_cases hi:je out x=i
      · rw[← hi,aLj (by simpa using c1),aLn,c7 c1,←c2];rfl
      · rw[aLi hi]
     rw[e];exact u
 · rename_i c
   refine⟨h.pr,h.f1,h.f2,fun y hy=>?_,?_⟩
   · simp only[List.mem_append,List.mem_singleton]at hy
     rcases hy with(hy | rfl) | hy
     · exact h.wv y (List.mem_of_mem_take hy)
     · exact hx
     · exact h.wv y (List.mem_of_mem_drop hy)
   · have u:=h.up
     have lo:∀y∈out.take (je out x),lexB y.tags x.tags=true:=by
      intro y hy
      obtain⟨i,hi⟩:=aLf.1 hy
      have il:=(aLe.1 hi).1
      rw[List.length_take]at il
      rw[List.getElem?_take_of_lt (by omega)]at hi
      have:=Tt (out:=out) (x:=x) (k:=i) (by omega)
      rwa [bD hi]at this
     have hi:∀y∈out.drop (je out x),lexB x.tags y.tags=true:=by
      intro y hy
      obtain⟨i,hi⟩:=aLf.1 hy
      have il:=(aLe.1 hi).1
      rw[List.length_drop]at il
      rw[List.getElem?_drop]at hi
      have c1:je out x<out.length:=by omega
      have at_:=Tu c1
      have ne:(nth out (je out x)).tags≠x.tags:=fun e=>c ⟨c1,e⟩
      have first_:lexB x.tags (nth out (je out x)).tags=true:=by
       rcases Hg (nth out (je out x)).tags x.tags with a | a | a
       · rw[a]at at_;cases at_
       · exact absurd a ne
       · exact a
      by_cases i0:i=0
      · subst i0
        rw[Nat.add_zero]at hi
        rwa [bD hi]at first_
      · have:=(List.pairwise_iff_getElem.1 u) (je out x) (je out x+i) (by omega) (by omega) (by omega)
        rw[← bD (aLc (by omega:je out x<out.length)),←bD (aLc (by omega:je out x+i<out.length)),bD hi]at this
        exact lex_trans first_ this
     have td:out.take (je out x)++out.drop (je out x)=out:=List.take_append_drop _ _
     have u2:=u
     rw[← td,List.pairwise_append]at u2
     rw[List.append_assoc,List.pairwise_append]
     refine⟨u2.1,?_,fun y hy z hz=>?_⟩
     · rw[List.singleton_append,List.pairwise_cons];exact⟨hi,u2.2.1⟩
     · simp only[List.singleton_append,List.mem_cons]at hz
       rcases hz with rfl | hz
       · exact lo y hy
       · exact u2.2.2 y hy z hz
theorem EU{m:aC}(hm:m.ok){first:List Int}(pr:iu first=true)(f1:1≤first.length)(f2:first.length≤12){l:List World}(hl:∀x∈l,WV m first x):∀j,j≤l.length→BV m first (uu l j)
 | 0,_=>⟨pr,f1,f2,fun x hx=>by simp[uu]at hx,by simp[uu]⟩
 | j+1,h=>Tv hm (EU hm pr f1 f2 hl j (by omega)) (hl _ (ai (by omega)))
theorem aey{a b:List Int}(h:lexB a b=true):a≠b:=fun e=>by rw[e,lex_irrefl]at h;cases h
structure SH(n p:Nat)(l:List Wh):Prop where
 ln:l.length=n
 fr:∀w∈l,w.frm.length=p
theorem WV.sh{m:aC}{first:List Int}{x:World}(h:WV m first x):SH first.length m.aa.length x.whr:=
 ⟨h.wl,fun w hw=>(eM (h.wv w hw)).1⟩
end Go.Ev
namespace Go.Ev
open Go
variable [Lib] [bX] [bJ] [fR] [fS] [iK] [fy] [fo] [gU] [fM] [cV] [cI] [fB] [eu]
theorem Rp.more{H:aq}{id:Nat}{es:List D}{fa fb:Nat→Nat}{out:List World}(hr:Rp H id es fa fb out)(t:aq):Rp (H++t) id es fa fb out:=
 ⟨by rw[kQ (nu hr.arr)];exact hr.arr,hr.len,hr.el,fun j hj=>by rw[kQ (nu (hr.ha j hj))];exact hr.ha j hj,fun j hj=>by rw[kQ (nu (hr.hb j hj))];exact hr.hb j hj,hr.na,hr.nb,hr.nab,hr.nbb⟩
end Go.Ev
namespace Go.Ev
open Go
variable [Lib] [bX] [bJ] [fR] [fS] [iK] [fy] [fo] [gU] [fM] [cV] [cI]
theorem MG{m:aC}(h:m.ok)(b:Bel)(hs:b.sz):aH 0 N.gF [.t m.e,.t b.e] []=some (B (qV m b),[]):=by
 rw[← Tp]
 refine av K.sk rfl ?_
 obtain⟨h1,h2⟩:=hs
 have v:=jk h
 obtain⟨ws⟩:=b
 simp only at h1 h2
 have li:=C3 ws.length 1 24
 unfold To
 simp only
 by_cases c:1≤ws.length∧ws.length≤24
 · have li:aH 0 N.eI [I ws.length,I 1,I 24] []=some (B true,[]):=by rw[li,decide_eq_true (by omega)]
   have e0:(ws.map World.e)[0]?=some (nth ws 0).e:=bR _ (by omega)
   have sz:=(h2 _ (ai (l:=ws) (j:=0) (by omega))).1
   have loop:=fun a b c d e=>ny (gc:=true) (dead:=[0,1,4,6,7]) (c:=K.b7) (vs:=[a,b,.bp 0 0,.bp 1 0,c,.t (tL (iS (nth ws 0).tags)),d,e,.t (.sl (ws.map World.e)),I ws.length,I 0]) (H:=[.box (ae m),.box [.t (.sl (ws.map World.e))],.box [.t (tL (nth ws 0).tags)]])
    (swS m ws (nth ws 0).tags) ws.length (fun j=> !pwB m ws (nth ws 0).tags j) (fun _ q=>q.1= .ret∧q.2.vs[4]?=some (B false))
    (.exit 0,swS m ws (nth ws 0).tags ws.length) rfl
    (fun j hj hp=>(Qc h ws _ sz h2 j hj h1).1 (by simpa using hp))
    (fun j hj hp=>by
     obtain⟨q,q1,q2,q3⟩:=(Qc h ws _ sz h2 j hj h1).2 (by simpa using hp)
     exact⟨q,q1,by rw[q2];simp,q2,q3⟩)
    (by simp(disch:=omega)only[go_sem,K.b7,swS,↓reduceIte,reduceAdd,reduceSub]) (by simp)
   rw[rW]
   have va:=Cm (nth ws 0).tags
   have so:=Cn (nth ws 0).tags sz
   have loop:=loop (.t m.e) (.t (Bel.e ⟨ws⟩)) (B false) .und .und
   generalize nth ws 0=x at*
   obtain⟨first,whr⟩:=x
   simp only[swS]at*
   generalize iS first=sf at*
   rcases loop with⟨e1,e2⟩ | ⟨j,⟨x,vs,H⟩,e1,e2,e3,e4⟩
   · have e2:exS aH K.qm _=_:=e2
     simp(disch:=omega)only[go_sem,K.gF,↓reduceIte,v,li,e0,va,so,c,and_self,decide_true,Bool.true_and,e1,e2,Option.isNone,reduceAdd,reduceSub]
   · have e2:exS aH K.qm _=_:=e2
     simp only at e3 e4
     subst e3
     simp(disch:=omega)only[go_sem,K.gF,↓reduceIte,v,li,e0,va,so,c,and_self,decide_true,Bool.true_and,e1,e2,Option.isNone,reduceAdd,reduceSub]
     simp(disch:=omega)only[go_sem,j7,e4,List.take_zero]
 · have li:aH 0 N.eI [I ws.length,I 1,I 24] []=some (B false,[]):=by rw[li,decide_eq_false (by omega)]
   simp(disch:=omega)only[go_sem,K.gF,↓reduceIte,v,li,c,decide_false,Bool.false_and,reduceAdd,reduceSub]
end Go.Ev
namespace Go.Ev
open Go
variable [Lib] [bX] [bJ] [fy] [fo]
abbrev Tw:Int:=2147483648
section
variable {m : aC} (h : m.ok) {fl : List Spn}
include h
end
end Go.Ev
namespace Go.Ev
open Go
theorem D2{α:Type}{f:α→α×Bool}(P:α→Prop)(hP:∀l,P l→P (f l).1):∀n l,P l→P (ja f n l)
 | 0,l,h=>h
 | n+1,l,h=>by
   unfold ja
   split
   · exact D2 P hP n _ (hP l h)
   · exact hP l h
def clP(m:aC)(fl:List Spn)(y:List Int):Prop:=∀k,k<m.roads.length→∀back,0≤zx (nth m.roads k) (nth fl k) back→
 nth y ((nth m.roads k).src back).toNat+zx (nth m.roads k) (nth fl k) back≤Tw→
 nth y ((nth m.roads k).dst back).toNat≤nth y ((nth m.roads k).src back).toNat+zx (nth m.roads k) (nth fl k) back
variable [Lib] [bX] [bJ] [fy] [fo]
end Go.Ev
namespace Go.Ev
open Go
variable [Lib] [bX] [bJ] [fy] [fo]
def ai9(l:List Int):Prop:=∀x∈l,0≤x∧(x≤Tw∨x=1099511627776)
theorem ai9.bnd{l:List Int}(h:ai9 l):bnd l:=fun x hx=>by have:=h x hx;simp only[Tw]at this;omega
end Go.Ev
namespace Go.Ev
open Go
variable [Lib] [bX] [bJ] [fR] [fS] [fy] [fo]
theorem pW{l:List Int}{n:Int}(h:rq l n=true):∀x∈l,0≤x∧x<n:=by
 intro x hx
 simp only[rq,aLx,aLu,decide_eq_true_eq]at h
 obtain⟨j,hj⟩:=aLf.1 hx
 have:=h j (aLe.1 hj).1
 rw[bD hj]at this
 exact⟨this.1,this.2.1⟩
theorem VI{p:Int}{n:Int}(h0:0≤p)(h1:p<n):rq [p] n=true:=by
 simp only[rq,aLx,aLu,decide_eq_true_eq]
 intro j hj
 obtain rfl:j=0:=by simpa using hj
 exact⟨h0,h1,fun h=>absurd h (by omega)⟩
structure aez(m:aC)(fl:List Spn)(s:Wh):Prop where
 ln:s.frm.length=m.aa.length
 ti:inT s.time
 tm:ai9 s.frm
 lo:∀x∈s.frm,s.time≤x
 cl:clP m fl s.frm
theorem aez.valid{m:aC}{fl:List Spn}{s:Wh}(h:aez m fl s):Po m s=true:=by
 simp only[Po,aLr,decide_eq_true_eq,aLx,aLu]
 refine⟨fun j hj=>?_,h.ln,h.ti⟩
 have a:=h.tm _ (ai hj)
 have b:=h.lo _ (ai hj)
 unfold plS
 simp only[Tw]at a
 omega
end Go.Ev
namespace Go.Ev
open Go
variable [Lib] [bX] [bJ] [fR] [fS] [iK] [fy] [fo] [gU] [fM] [cV] [cI]
section
variable {m : aC} (hm : m.ok) (l : List Mch) (hl : l.length ≤ 1000) (hp : ∀ x ∈ l, x.pl.length ≤ 1000000) (s : Wh) (hs : s.frm.length ≤ 1000000) (b : Bel) (hb : b.sz) (t a : Int)
include hm hl hp hs hb
end
end Go.Ev
namespace Go.Ev
open Go
variable [Lib] [bX] [bJ] [fR] [fS] [fy] [fo]
theorem aeA{d:aF}(hd:d.dY)(n:Nat)(hn:n≤1000000):
 ∃(l:List Int) (e:aF),aH 0 N.cT [.bp 0 0,I n] [d.obj]=some (.t (tL l),[e.obj])∧e.dY∧l.length≤n:=
 ⟨_,_,OY d n hn hd,aF.mV hd n,d.yi n⟩
end Go.Ev
namespace Go.Ev
open Go
variable [Lib] [bX] [bJ]
def sh(s x:Int):Int:=if x<1099511627776 then x+s else x
end Go.Ev
namespace Go.Ev
open Go
variable [Lib] [bX] [bJ] [fR] [fS] [iK] [fy] [fo] [gU] [fM]
theorem Cz(l:List Int)(x:Int){j:Nat}(hj:j<l.length):nth (l++[x]) j=nth l j:=by
 unfold nth;simp[aLl,aLg hj]
theorem Qk(l:List Int)(x:Int):nth (l++[x]) l.length=x:=by
 unfold nth;simp[aLl]
theorem Hh{l:List Int}{n:Nat}(h:rq l n=true):rq l ((n+1:Nat):Int)=true∧rq (l++[(n:Int)]) ((n+1:Nat):Int)=true:=by
 simp only[rq,aLx,aLu,decide_eq_true_eq]at h ⊢
 refine⟨fun j hj=>?_,fun j hj=>?_⟩
 · obtain⟨a,b,c⟩:=h j hj;exact⟨a,by omega,c⟩
 · by_cases c:j<l.length
   · obtain⟨a,b,c⟩:=h j c
     rw[Cz _ _ (by omega)]
     refine⟨a,by omega,fun hj=>?_⟩
     rw[Cz _ _ (by omega)];exact c hj
   · have e:j=l.length:=by simp at hj;omega
     subst e
     rw[Qk]
     refine⟨by omega,by omega,fun hj=>?_⟩
     rw[Cz _ _ (by omega)]
     exact(h (l.length-1) (by omega)).2.1
end Go.Ev
namespace Go.Ev
open Go
variable [Lib] [bX] [bJ] [fR] [fS] [iK] [fy] [fo] [gU] [fM] [cV] [cI]
theorem Y6{m:aC}(hm:m.ok){b:Bel}(hb:qV m b=true)(tag:Int)(l:List Int)(a c:Int):qV m (uq m b tag l a c).1=true:=by
 unfold uq
 split
 · exact hb
 · split
   · exact hb
   · split
     · exact hb
     · rename_i h
       obtain⟨ws⟩:=b
       have bv:=aew hm (uz hb) tag l a c
       have ln:=yy m tag l a c ws ws.length
       obtain⟨h1,h2, -⟩:=gH hb
       simp only at h1 h2 h ⊢
       exact bv.bel (by omega) (by omega)
theorem Y7{m:aC}(hm:m.ok){b:Bel}(hb:qV m b=true)(tag:Int)(l:List Int)(a c bl:Int):qV m (ur m b tag l a c bl).1=true:=by
 unfold ur
 split
 · exact hb
 · split
   · exact hb
   · obtain⟨ws⟩:=b
     have bv:=aex hm (uz hb) tag l a c bl
     have ln:=yz m tag l a c bl ws ws.length
     obtain⟨h1,h2, -⟩:=gH hb
     simp only at h1 h2 ⊢
     exact bv.bel (by omega) (by omega)
theorem Tx{m:aC}(hm:m.ok){b:Bel}(hb:qV m b=true)(i j t:Int):qV m (ph m b i j t).1=true:=by
 unfold ph
 split
 · exact hb
 · split
   · exact hb
   · rename_i hij
     split
     · exact hb
     · split
       · exact hb
       · rename_i hl
         obtain⟨ws⟩:=b
         have bv:=uz hb
         obtain⟨h1,h2, -⟩:=gH hb
         simp only at h1 h2 hl hij ⊢
         have nb:=yF hm bv.wv (i:=i.toNat) (j:=j.toNat) (by omega) (by omega) t ws.length (aLs _)
         have el:=vw i.toNat j.toNat t ws ws.length
         have tv:=EU hm bv.pr bv.f1 bv.f2 nb _ (aLs _)
         refine BV.bel tv ?_ (Nat.not_lt.1 hl)
         have t1:∀k,1≤k→1≤(uu (j3 i.toNat j.toNat t ws ws.length) k).length:=by
          intro k hk
          obtain⟨k,rfl⟩:∃k',k=k'+1:=⟨k-1,by omega⟩
          exact(yA _ _).2.2
         exact t1 _ (by omega)
theorem zE{m:aC}(hm:m.ok){n:Int}{s:BSt}(hb:qV m s.b=true):∀k,qV m (aF.zC m n s k).b=true
 | 0=>hb
 | k+1=>by
   have ih:=zE hm (n:=n) hb k
   simp only[aF.zC]
   generalize aF.zC m n s k=q at*
   unfold aF.mE
   simp only
   split
   · simp only
     split
     · exact Tx hm ih _ _ _
     · exact ih
   · split
     · simp only
       split
       · exact Y6 hm ih _ _ _ _
       · exact ih
     · simp only
       split
       · exact Y7 hm ih _ _ _ _ _
       · exact ih
theorem D3{m:aC}(hm:m.ok)(h1:1≤m.aa.length)(d:aF):qV m (d.NG m).b=true:=by
 have pb:=Cu d
 have tl:=mD d.qo
 have sl:(d.oa m).1.length=d.qo:=aF.lL _ _ _
 have t0:=(d.oa m).2.ff 100
 have t9:=(d.oa m).2.fg (n:=100) (by omega)
 have pr:=Au (n:=d.qo) (by omega)
 unfold aF.NG
 rw[EP hm h1]
 refine BV.bel (first:=sy d.qo) ⟨pr,by omega,by omega,fun x hx=>?_,by simp⟩ (by simp) (by simp)
 rw[List.mem_singleton.1 hx]
 refine⟨List.Perm.refl _,by simp,fun w hw=>?_⟩
 simp only[jd,List.mem_map,aLu]at hw
 obtain⟨i,hi,rfl⟩:=hw
 have hi:i<(d.oa m).1.length:=by rw[sl,←tl];exact hi
 have:=uw (d.next 3).2 (n:=m.aa.length) (by omega) d.qo _ (ai hi)
 exact(Cg hm this.1 this.2 ⟨by omega,by omega⟩).2
theorem Hi{m:aC}(hm:m.ok)(h1:1≤m.aa.length)(d:aF):qV m (d.uv m).1=true:=zE hm (D3 hm h1 d) _
end Go.Ev
namespace Go.Ev
open Go
variable [Lib] [bX] [bJ] [fR] [fS] [iK] [fy] [fo] [gU] [fM] [cV] [cI] [fB] [eu]
theorem MH{α:Type} [Dat α](l:List α)(i:Nat)(h:i<l.length):l.set i (nth l i)=l:=by
 rw[bD (aLc h),List.set_getElem_self]
end Go.Ev
