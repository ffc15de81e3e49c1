/- Parts of the proof: see the text that holds the theorem. -/
import Derived.Test.YtgedjeljhicagaaGreatZ3
set_option linter.all false
open Nat (reduceAdd reduceSub)
set_option maxRecDepth 100000
namespace Go.Ev
open Go
variable [Lib] [cH] [b7] [fG] [fH]
section
variable (H : ah) (sz : Nat)
def Kj(id ep n lo hi:Nat)(ys:List D):Option Obj→Option (D×ah)
 | some (.arr sz' pin ep' es)=>if ep=ep'∧n=es.length then KE H id ep (sz',pin,es) lo hi ys sz else none
 | _=>none
def cpD(x:D)(ys:List D):Option (D×ah):=if bJ sz ys=true then(match x with
 | .ref id ep n=>Kj H sz id ep n 0 n ys H[id]?
 | .sub id ep n lo hi=>Kj H sz id ep n lo hi ys H[id]?
 | _=>none)else none
def VW(x y:Option D):Option (D×ah):=x.bind fun a=>y.bind fun b=>xr H a b sz
@[go_sem] theorem aaX (call : aP) (get : X → Option D) (x y : X) : evO call get H (.cp x y sz) = VW H sz (get x) (get y) := (rfl)
theorem CD(x y:D)(ys:List D)(h:elems H y=some ys):xr H x y sz=cpD H sz x ys:=by
 unfold xr cpD
 rw[h,aLq]
 split
 · rename_i hh
   cases x with
   | ref id ep n=>
     simp only[eZ,Kj]
     cases H[id]? with
     | none=>rfl
     | some o=>
       cases o with
       | box cs=>rfl
       | arr sz' pin ep' es=>
         simp only
         by_cases c:ep=ep'∧n=es.length
         · rw[if_pos c,if_pos c];rfl
         · rw[if_neg c,if_neg c];rfl
   | sub id ep n lo hi=>
     simp only[eZ,Kj]
     cases H[id]? with
     | none=>rfl
     | some o=>
       cases o with
       | box cs=>rfl
       | arr sz' pin ep' es=>
         simp only
         by_cases c:ep=ep'∧n=es.length
         · rw[if_pos c,if_pos c];rfl
         · rw[if_neg c,if_neg c];rfl
   | _=>rfl
 · rfl
@[go_sem] theorem Z5 (x : D) (ts : List T) : VW H sz (some x) (some (.t (.sl ts))) = cpD H sz x (ts.map .t) := CD H sz x (.t (.sl ts)) (ts.map .t) rfl
def cpE(x:D)(ep n lo hi:Nat):Option Obj→Option (D×ah)
 | some (.arr _ _ ep' es)=>if ep=ep'∧n=es.length then cpD H sz x ((es.drop lo).take (hi-lo))else none
 | _=>none
@[go_sem] theorem YP (x : D) (n lo hi sz' : Nat) (pin : Bool) (ep : Nat) (es : List D) : cpE H sz x ep n lo hi (some (.arr sz' pin ep es)) = if n = es.length then cpD H sz x ((es.drop lo).take (hi - lo)) else none := by simp [cpE]
@[go_sem] theorem VX (x : D) (id ep n lo hi : Nat) : VW H sz (some x) (some (.sub id ep n lo hi)) = cpE H sz x ep n lo hi H[id]? := by
 unfold VW
 simp only[aLq]
 cases h:H[id]? with
 | none=>simp[xr,elems,eZ,h,cpE]
 | some o=>
   cases o with
   | box cs=>simp[xr,elems,eZ,h,cpE]
   | arr sz' pin ep' es=>
     by_cases c:ep=ep'∧n=es.length
     · rw[CD H sz x _ ((es.drop lo).take (hi-lo)) (by simp[elems,eZ,h,c])]
       simp only[cpE,if_pos c]
     · simp[xr,elems,eZ,h,cpE,c]
@[go_sem] theorem YQ (id ep n : Nat) (ys : List D) : cpD H sz (.ref id ep n) ys = if bJ sz ys = true then Kj H sz id ep n 0 n ys H[id]? else none := (rfl)
@[go_sem] theorem YR (id ep n lo hi : Nat) (ys : List D) : cpD H sz (.sub id ep n lo hi) ys = if bJ sz ys = true then Kj H sz id ep n lo hi ys H[id]? else none := (rfl)
@[go_sem] theorem VY (id n lo hi : Nat) (ys : List D) (ep : Nat) (es : List D) : Kj H sz id ep n lo hi ys (some (.arr sz false ep es)) =
 if n=es.length then(if min ys.length (hi-lo)=0 then some (.t (.int .i64 0),H)else some (.t (.int .i64 ((min ys.length (hi-lo):Nat):Int)),H.set id (.arr sz false ep (es.take lo++ys.take (min ys.length (hi-lo))++es.drop (lo+min ys.length (hi-lo))))))else none:=by
 simp[Kj,KE]
end
end Go.Ev
namespace Go.Ev
open Go
variable [Lib] [cH] [b7] [fG] [fH]
theorem zB(a b lo hi:Int)(h1:lo≤a)(h2:a≤b)(h3:b≤hi):aS 0 N.eO [.t (.agg [tI a,tI b]),I lo,I hi] []=some (B true,[]):=by
 refine aE K.ny rfl ?_
 simp(disch:=omega)only[go_sem,K.eO,↓reduceIte,reduceAdd,reduceSub]
theorem zC{m:bV}(h:m.ok):aS 0 N.gJ [.t m.e] []=some (I 0,[]):=by
 refine aE K.oJ rfl ?_
 have np:=h.np
 have nr:=h.nr
 have hs:=h.hs
 have rs:=h.rs
 obtain⟨av,roads⟩:=m
 simp only at np nr hs rs
 have l1:∀z0 z2 z3 z4 z5 z9 z10 z11:D,exS aS K.rA ⟨[z0,.bp 0 0,z2,z3,z4,z5,.t (.sl (av.map Place.e)),I av.length,I 0,z9,z10,z11],[.box (au ⟨av,roads⟩)]⟩=
  some (.exit 0,⟨[.und,.bp 0 0,.und,.und,.und,.und,.t (.sl (av.map Place.e)),I av.length,I av.length,.und,.und,.und],[.box (au ⟨av,roads⟩)]⟩):=by
  intro z0 z2 z3 z4 z5 z9 z10 z11
  refine eK (fun j=>⟨[.und,.bp 0 0,.und,.und,.und,.und,.t (.sl (av.map Place.e)),I av.length,I j,.und,.und,.und],[.box (au ⟨av,roads⟩)]⟩) av.length rfl ?_ ?_ (by simp)
  · intro j hj
    have g:(av.map Place.e)[j]?=some (nth av j).e:=fT _ hj
    have q:=hs _ (az hj)
    generalize nth av j=x at*
    obtain⟨hh,sf⟩:=x
    simp only[au]at*
    simp(disch:=omega)only[go_sem,K.lR,↓reduceIte,g,reduceAdd,reduceSub]
  · simp(disch:=omega)only[go_sem,K.lR,↓reduceIte,au,reduceAdd,reduceSub]
 have l2:∀z0 z1 z2 z3 z5 z6 z7 z8:D,exS aS K.rB ⟨[z0,z1,z2,z3,I av.length,z5,z6,z7,z8,.t (.sl (roads.map Road.e)),I roads.length,I 0],[.box (au ⟨av,roads⟩)]⟩=
  some (.exit 2,⟨[.und,.und,.und,.und,I av.length,.und,.und,.und,.und,.t (.sl (roads.map Road.e)),I roads.length,I roads.length],[.box (au ⟨av,roads⟩)]⟩):=by
  intro z0 z1 z2 z3 z5 z6 z7 z8
  refine eK (fun j=>⟨[.und,.und,.und,.und,I av.length,.und,.und,.und,.und,.t (.sl (roads.map Road.e)),I roads.length,I j],[.box (au ⟨av,roads⟩)]⟩) roads.length rfl ?_ ?_ (by simp)
  · intro j hj
    have g:(roads.map Road.e)[j]?=some (nth roads j).e:=fT _ hj
    have q:=rs _ (az hj)
    generalize nth roads j=x at*
    have f0:=q.f0;have f1:=q.f1;have t0:=q.t0;have t1:=q.t1;have ne:=q.ne;have l0:=q.l0;have l1:=q.l1;have a0:=q.a0;have a1:=q.a1
    have r0:=q.r0;have r1:=q.r1;have r2:=q.r2;have i0:=q.i0;have i1:=q.i1;have i2:=q.i2
    clear q
    obtain⟨frm,to,len,area,walk,closed,rl,rh,ll,lh⟩:=x
    simp only[au]at*
    have s1:=zB rl rh 1 262144 r0 r1 r2
    have s2:=zB ll lh (-2199023255552) 2199023255552 i0 i1 i2
    simp(disch:=omega)only[go_sem,K.lS,↓reduceIte,g,s1,s2,reduceAdd,reduceSub]
  · simp(disch:=omega)only[go_sem,K.lS,↓reduceIte,au,reduceAdd,reduceSub]
 simp only[au]at l1 l2
 simp(disch:=omega)only[go_sem,K.gJ,↓reduceIte,l1,l2,reduceAdd,reduceSub]
theorem oK{m:bV}(h:m.ok):aS 0 N.dV [.t m.e] []=some (B true,[]):=by
 refine aE K.oH rfl ?_
 have c:=zC h
 obtain⟨av,roads⟩:=m
 simp(disch:=omega)only[go_sem,K.dV,↓reduceIte,c,reduceAdd,reduceSub]
end Go.Ev
namespace Go.Ev.N
def DG:Nat:=178
def DH:Nat:=179
def Ew:Nat:=180
def DI:Nat:=181
def Ey:Nat:=182
def F9:Nat:=183
def Ez:Nat:=184
def Nw:Nat:=185
def gk:Nat:=186
def Nx:Nat:=187
def Ga:Nat:=188
def eP:Nat:=189
def dw:Nat:=190
def Kk:Nat:=191
def jd:Nat:=192
def IH:Nat:=193
def Kl:Nat:=194
def Ny:Nat:=195
def fV:Nat:=196
def Ti:Nat:=197
def dI:Nat:=198
def bR:Nat:=199
def dt:Nat:=200
def cR:Nat:=201
def aT:Nat:=202
def gl:Nat:=203
def aH:Nat:=204
def b9:Nat:=205
def Nz:Nat:=206
def dy:Nat:=207
def cN:Nat:=208
def aZ:Nat:=209
def bH:Nat:=210
def iL:Nat:=211
def iM:Nat:=212
def dP:Nat:=213
def gK:Nat:=214
end Go.Ev.N
namespace Go.Ev.K
open Go.Ev
def gk:Fn:= { aY:=3,vars:=[0,1,2,3,6,7,8],body:=(q [w 3 (.bx v0 2),w 4 (.al [z0,.nil] []),x 5 (.i 0)] [] (.seq (.blk 0 (.ite [h 2 v3,u (.ca N.dV 0 [] [.l 0]),u (.un .not l0),m l0] [] 0 (q [u (.bd [z0,.nil] []),u (.st v4 l0 2 []),x 5 (.i 6)] [] .ret) (.ite [m v1,f 0 v3,g l0,u (.ln l0),u (.bin .sub l0 (.i 1)),u (.ca N.cK 0 [] [.l 4,.i 0,.l 0]),u (.un .not l0),m l0] [] 0 (q [u (.bd [z0,.nil] []),u (.st v4 l0 2 []),x 5 (.i 3)] [] .ret) (.ite [m v2,u (.ca N.cK 0 [] [.l 0,.i 0,.i 2147483648]),u (.un .not l0),m l0] [] 0 (q [u (.bd [z0,.nil] []),u (.st v4 l0 2 []),x 5 (.i 8)] [] .ret) .skip)))) (q [h 2 v3,u (.ca N.dI 1 [] [.l 0]),x 6 l0] [] (q [m v6,m v1,m v2,a 1 l2 l1,u (.st l0 l1 1 [])] [] (q [m v2,h 2 v3,m v6,m v2,u (.ca N.bR 0 [] [.l 2,.l 1,.l 0,.c (.fn N.dt [])]),u (.bd [z0,.nil] [(0,1,.l 4),(1,1,.l 0)]),u (.st v4 l0 2 []),x 5 (.i 0)] [] .ret))))),res:=[(4,some (2,true)),(5,none)]}
def kL:C:= (.its [u (.bin .lss v11 v10)] [] 0 .skip (.exit 0) (.seq (.blk 1 (q [m v11,a 1 v9 v11,g l0,x 7 l2,x 8 l1] [] (.reg [f 1 v6,g l0,m v8,f 1 v3,g l0,m v7,a 1 l1 l0,g l0,u (.mn [.l 5,.l 0]),u (.bs [.l 0] 1),u (.app l8 l0 true 1),f 1 v6,u (.st l0 l1 1 [])] [(1,10)]))) (.reg [u (.bin .add v11 (.i 1)),x 11 l0] [])))
def pU:C:= .loop true [0,1,2,5,7,8] K.kL
def eP:Fn:= { aY:=2,vars:=[0,1,2,3,4,5,6,7,8,24,25,26],body:=(q [w 2 (.bx v0 2),w 3 (.bx v1 2),w 4 (.al [z0,.nil] []),x 5 (.i 0)] [] (.seq (.ite [f 1 v2,g l0,u (.ln l0),f 1 v3,g l0,u (.ln l0),u (.bin .neq l3 l0)] [] 0 (q [u (.bd [z0,.nil] []),u (.st v4 l0 2 []),x 5 (.i 6)] [] .ret) .skip) (q [f 0 v2,g l0,f 0 v3,g l0,u (.mx [.l 2,.l 0]),u (.bd [z0,.nil] [(0,1,.l 0)]),w 6 (.al [z0,.nil] [(1,1)]),u (.st l0 l1 2 [(1,1)])] [] (.seq (q [f 1 v2,w 9 (.ld l0 1 false),w 10 (.ln l0),x 11 (.i 0)] [] (.blk 0 K.pU)) (q [h 2 v6,u (.st v4 l0 2 []),x 5 (.i 0)] [] .ret))))),res:=[(4,some (2,true)),(5,none)]}
def dw:Fn:= { aY:=2,vars:=[0,1,2,3,4],body:=(q [w 2 (.bx v0 2),w 3 (.bx v1 2),x 4 (.b false)] [] (q [h 2 v2,u (.ca N.dV 0 [] [.l 0]),m l0,y 0 true (.ld v2 2 true),y 1 true (.ld v3 2 true),y 2 true (.ca N.cR 0 [] [.l 1,.l 0]),u (.pk l3 l0 (.b false)),m l0,y 0 true (.ld v2 2 true),y 1 true (.fa v3 1),i 2 true l0,y 3 true (.fa v3 0),i 4 true l0,y 5 true (.ca N.bR 0 [] [.l 4,.l 2,.l 0,.c (.fn N.dt [])]),y 6 true (.fa v3 1),i 7 true l0,y 8 true (.ca N.aT 0 [] [.l 2,.l 0]),u (.pk l9 l0 (.b false)),x 4 l0] [(15,6)] .ret)),res:=[(4,none)]}
def vQ:C:= (.its [u (.bin .lss v15 v14)] [] 0 .skip (.exit 0) (.seq (.blk 1 (q [a 1 v13 v15,g l0,x 12 l0] [] (.ite [f 1 v6,g l0,m v12,a 1 l1 l0,g l0,m v4,u (.bin .leq l1 l0)] [] 0 (.reg [m v10,m v12,f 1 v6,g l0,m v12,a 1 l1 l0,g l0,a 1 l6 l5,u (.st l0 l1 1 []),x 11 (.b true)] []) .skip))) (.reg [u (.bin .add v15 (.i 1)),x 15 l0] [])))
def xZ:C:= .loop true [0,1,2,8,9,12] K.vQ
def jd:Fn:= { aY:=5,vars:=[0,1,2,3,4,5,6,10,11,12,13,14,16,34,35,36],body:=(q [w 5 (.bx v0 2),w 6 (.bx v1 2),w 7 (.al [z0,.nil] []),x 8 (.i 0)] [] (.seq (q [h 2 v5,h 2 v6,m v2,m v3,m v4,u (.ca N.gl 0 [] [.l 4,.l 3,.l 2,.l 1,.l 0]),x 9 l0] [] (.ite [m v9,u (.bin .neq l0 (.i 0))] [] 0 (q [h 2 v6,m v9,u (.st v7 l1 2 []),x 8 l1] [] .ret) .skip)) (.seq (.ite [m v3,f 0 v6,g l0,u (.bin .lss l2 l0)] [] 0 (q [h 2 v6,u (.st v7 l0 2 []),x 8 (.i 42)] [] .ret) .skip) (q [h 2 v5,u (.ca N.dI 1 [] [.l 0]),x 10 l0,x 11 (.b false)] [] (.seq (q [x 13 v2,w 14 (.ln l0),x 15 (.i 0)] [] (.blk 0 K.xZ)) (.seq (.ite [m v11,u (.un .not l0)] [] 0 (q [h 2 v6,u (.st v7 l0 2 []),x 8 (.i 43)] [] .ret) .skip) (q [m v4,h 2 v5,m v10,m v3,u (.ca N.bR 0 [] [.l 2,.l 1,.l 0,.c (.fn N.dt [])]),u (.bd [z0,.nil] [(0,1,.l 4),(1,1,.l 0)]),u (.st v7 l0 2 []),x 8 (.i 0)] [] .ret))))))),res:=[(7,some (2,true)),(8,none)]}
end Go.Ev.K
namespace Go.Ev
class iC [Lib]:Prop where
 pV:Lib.fs N.gk=some K.gk
 nB:Lib.fs N.eP=some K.eP
 lT:Lib.fs N.dw=some K.dw
 tA:Lib.fs N.jd=some K.jd
namespace K
variable [Lib] [iC]
theorem pV:Lib.fs N.gk=some K.gk:=iC.pV
theorem nB:Lib.fs N.eP=some K.eP:=iC.nB
theorem lT:Lib.fs N.dw=some K.dw:=iC.lT
theorem tA:Lib.fs N.jd=some K.jd:=iC.tA
end K
end Go.Ev
namespace Go.Ev.K
open Go.Ev
def fV:Fn:= { aY:=2,vars:=[0,1,2,3,4],body:=(q [w 2 (.bx v0 2),w 3 (.bx v1 2),x 4 (.b false)] [] (q [f 0 v2,g l0,f 0 v3,g l0,u (.bin .eql l2 l0),m l0,y 0 true (.fa v2 1),i 1 true l0,y 2 true (.fa v3 1),i 3 true l0,y 4 true (.ca N.bQ 0 [] [.l 2,.l 0]),u (.pk l5 l0 (.b false)),x 4 l0] [] .ret)),res:=[(4,none)]}
def dI:Fn:= { aY:=1,vars:=[0,1,2],body:=(q [w 1 (.bx v0 2),w 2 (.mv (.c (.nil)))] [] (q [u (.bs [.i 1099511627776] 1),f 0 v1,g l0,u (.ln l0),u (.ca N.bZ 1 [] [.l 3,.l 0]),x 2 l0] [] .ret)),res:=[(2,none)]}
def cL:C:= (.seq (.ite [g v9] [] 0 .skip (.exit 0)) (.seq (.blk 1 (q [u (.st v9 (.b false) 1 [])] [] (.reg [h 2 v4,g v8,u (.mf N.aZ [.v 5,.v 8,.v 6,.v 9]),u (.ca N.cN 0 [1] [.l 2,.l 1,.l 0])] []))) (q [w 10 (.ld v9 1 false)] [] (.reg [w 9 (.al [z1] []),u (.st l0 v10 1 [])] []))))
def jN:C:= .loop false [0,1,2,3,7,10] K.cL
def bR:Fn:= { aY:=4,vars:=[0,1,2,3,4,6,7,8,9,10,18],body:=(q [w 4 (.bx v0 2),w 5 (.bx v2 1),w 6 (.bx v3 1),w 7 (.mv (.c (.nil)))] [] (q [m v1,u (.ca N.aH 1 [] [.l 0]),w 8 (.al [.nil] []),u (.st l0 l1 1 [])] [] (.seq (q [w 9 (.al [z1] []),u (.st l0 (.b true) 1 [])] [] (.blk 0 K.jN)) (q [g v8,x 7 l0] [] .ret)))),res:=[(7,none)]}
def dt:Fn:= { aY:=1,vars:=[2],body:=(q [x 0 (.b false)] [] (q [x 0 (.b true)] [] .ret)),res:=[(0,none)]}
def cR:Fn:= { aY:=2,vars:=[0,1,2,3,4],body:=(q [w 2 (.bx v0 2),w 3 (.bx v1 2),x 4 (.b false)] [] (q [f 1 v3,g l0,u (.ln l0),f 0 v2,g l0,u (.ln l0),u (.bin .eql l3 l0),m l0,y 0 true (.fa v3 0),i 1 true l0,y 2 true (.ca N.cK 0 [] [.l 0,.i 0,.i 2147483648]),u (.pk l3 l0 (.b false)),m l0,y 0 true (.fa v3 1),i 1 true l0,y 2 true (.ca N.aG 0 [] [.l 0,.c (.fn N.bH [])]),y 3 true (.un .not l0),u (.pk l4 l0 (.b false)),x 4 l0] [] .ret)),res:=[(4,none)]}
def dW:C:= (.its [u (.bin .lss v5 v4)] [] 0 .skip (.exit 0) (.seq (.blk 1 (q [m v5,x 3 l0] [] (.ite [m v0,m v3,a 1 l1 l0,g l0,m v1,m v3,a 1 l1 l0,g l0,u (.bin .neq l4 l0)] [] 0 (q [x 2 (.b false)] [] .ret) .skip))) (.reg [u (.bin .add v5 (.i 1)),x 5 l0] [])))
def jw:C:= .loop true [2,3] K.dW
def aT:Fn:= { aY:=2,vars:=[0,1,4,5,12,13],body:=(q [x 2 (.b false)] [] (.seq (.ite [m v0,u (.ln l0),m v1,u (.ln l0),u (.bin .neq l2 l0)] [] 0 (q [x 2 (.b false)] [] .ret) .skip) (.seq (q [m v0,w 4 (.ln l0),x 5 (.i 0)] [] (.blk 0 K.jw)) (q [x 2 (.b true)] [] .ret)))),res:=[(2,none)]}
def gl:Fn:= { aY:=5,vars:=[0,1,2,3,4,5,6,10],body:=(q [w 5 (.bx v0 2),w 6 (.bx v1 2),x 7 (.i 0)] [] (.seq (.blk 0 (.ite [h 2 v5,h 2 v6,u (.ca N.dw 0 [] [.l 1,.l 0]),u (.un .not l0),m l0,e 0 false v2,y 1 false (.ln l0),y 2 false (.bin .eql l0 (.i 0)),u (.pk l3 (.b true) l0),m l0,e 0 false v2,y 1 false (.fa v5 0),i 2 false l0,y 3 false (.ln l0),y 4 false (.bin .sub l0 (.i 1)),y 5 false (.ca N.dN 0 [] [.l 4,.i 0,.l 0]),y 6 false (.un .not l0),u (.pk l7 (.b true) l0),m l0] [] 0 (q [x 7 (.i 6)] [] .ret) (.ite [m v3,u (.ca N.cK 0 [] [.l 0,.i 0,.i 2147483648]),u (.un .not l0),m l0,e 0 false v4,y 1 false (.ca N.cK 0 [] [.l 0,.i 0,.i 2147483648]),y 2 false (.un .not l0),u (.pk l3 (.b true) l0),m l0,e 0 false v3,e 1 false v4,y 2 false (.bin .gtr l1 l0),u (.pk l3 (.b true) l0),m l0] [] 0 (q [x 7 (.i 8)] [] .ret) .skip))) (q [x 7 (.i 0)] [] .ret))),res:=[(7,none)]}
def aH:Fn:= { aY:=1,vars:=[0,2],body:=(q [w 1 (.mv (.c (.nil)))] [] (.itk [m v0,u (.eqk (.sl) false l0 (.c (.nil)))] [] 0 (q [w 1 (.nw 1)] [] .ret) .skip (q [u (.bsr [] 1),m v0,u (.app l1 l0 false 1),x 1 l0] [] .ret))),res:=[(1,none)]}
def b9:Fn:= { aY:=2,vars:=[0,1,3],body:=(q [x 2 (.b false)] [] (q [g v1,m v0,u (.ca N.aR 0 [] [.l 1,.l 0]),x 2 l0] [] .ret)),res:=[(2,none)]}
def dy:Fn:= { aY:=2,vars:=[0,1,2,4,5],body:=(q [w 2 (.bx v0 2),w 3 (.al [z0,.nil] []),x 4 (.i 0)] [] (.seq (.ite [m v1,f 0 v2,g l0,u (.bin .lss l2 l0),m l0,e 0 false v1,y 1 false (.bin .gtr l0 (.i 2147483648)),u (.pk l2 (.b true) l0)] [] 0 (q [h 2 v2,u (.st v3 l0 2 []),x 4 (.i 8)] [] .ret) .skip) (q [m v1,f 1 v2,g l0,u (.ca N.aH 0 [] [.l 0]),u (.bd [z0,.nil] [(0,1,.l 3),(1,1,.l 0)]),u (.st v3 l0 2 []),x 4 (.i 0)] [] .ret))),res:=[(3,some (2,true)),(4,none)]}
def dG:C:= (.its [u (.bin .lss v14 (.i 2))] [] 0 .skip (.exit 2) (.seq (.blk 3 (q [u (.ix v13 v14 2 1 false),x 6 l0] [] (q [f 0 v5,g l0,f 1 v5,g l0,x 7 l2,x 8 l1] [] (.seq (.ite [m v6] [] 0 (.reg [m v8,m v7,x 7 l1,x 8 l1] []) .skip) (q [h 2 v3,m v4,m v6,u (.ca N.iL 0 [] [.l 2,.l 1,.l 0]),x 9 l0] [] (.ite [m v9,u (.bin .geq l0 (.i 0)),m l0,e 0 true v1,e 1 true v7,y 2 true (.ia l1 l0 1),i 3 true l0,y 4 true (.bin .lss l0 (.i 1099511627776)),u (.pk l5 l0 (.b false))] [] 0 (.reg [m v2,m v7,m v8,m v1,m v7,a 1 l1 l0,g l0,m v9,u (.bin .add l1 l0),u (.cw l8 0 [] [.l 7,.l 6,.l 0])] []) .skip)))))) (.reg [u (.bin .add v14 (.i 1)),x 14 l0] [])))
def lz:C:= .loop true [0,6,7,8,9] K.dG
def gr:C:= (.its [u (.bin .lss v12 v11)] [] 0 .skip (.exit 0) (.seq (.blk 1 (q [m v12,a 10 v10 v12,h 10 l0,w 5 (.al [z0,z0,z0,z0,z1,z1,z0,z0,z0,z0] []),x 4 l3,u (.st l1 l2 10 [])] [] (q [w 13 (.bd [z1,z1] [(0,1,.b false),(1,1,.b true)]),x 14 (.i 0)] [] (.blk 2 K.lz)))) (.reg [u (.bin .add v12 (.i 1)),x 12 l0] [])))
def lA:C:= .loop true [0,4,5,6,7,8,9,13,14] K.gr
def cN:Fn:= { aY:=3,vars:=[0,1,2,3,6,7,9,10,11,12,14,15,16,21,22],body:=(q [w 3 (.bx v0 2)] [] (q [f 1 v3,w 10 (.ld l0 1 false),w 11 (.ln l0),x 12 (.i 0)] [] (.blk 0 K.lA))),res:=[]}
def aZ:Fn:= { aY:=7,vars:=[1,2,3,4,5,6],body:=(q [m v1,g v2,u (.mx [.l 1,.l 0]),x 1 l0] [] (.ite [m v1,u (.bin .leq l0 (.i 2147483648)),m l0,e 0 true v1,i 1 true v3,e 2 true v0,y 3 true (.ia l1 l0 1),i 4 true l0,y 5 true (.bin .lss l4 l0),u (.pk l6 l0 (.b false)),m l0,i 0 true v4,e 1 true v0,y 2 true (.cw l1 0 [] [.l 0]),u (.pk l3 l0 (.b false))] [] 0 (.reg [g v3,m v0,m v1,a 1 l2 l1,u (.st l0 l1 1 []),u (.st v5 (.b true) 1 [])] []) .skip)),res:=[]}
def bH:Fn:= { aY:=1,vars:=[0,2],body:=(q [x 1 (.b false)] [] (q [m v0,u (.bin .neq l0 (.i 1099511627776)),m l0,e 0 true v0,y 1 true (.ca N.cK 0 [] [.l 0,.i 0,.i 2147483648]),y 2 true (.un .not l0),u (.pk l3 l0 (.b false)),x 1 l0] [] .ret)),res:=[(1,none)]}
def iL:Fn:= { aY:=3,vars:=[0,1,2,3,6],body:=(q [w 3 (.bx v0 2),x 4 (.i 0)] [] (.seq (.ite [h 2 v3,u (.ca N.dV 0 [] [.l 0]),u (.un .not l0),m l0,e 0 false v1,y 1 false (.bin .lss l0 (.i 0)),u (.pk l2 (.b true) l0),m l0,e 0 false v1,y 1 false (.fa v3 1),i 2 false l0,y 3 false (.ln l0),y 4 false (.bin .geq l3 l0),u (.pk l5 (.b true) l0)] [] 0 (q [w 4 (.mv (.i (-1)))] [] .ret) .skip) (q [h 2 v3,m v1,m v2,u (.ca N.iM 0 [] [.l 2,.l 1,.l 0]),x 4 l0] [] .ret))),res:=[(4,none)]}
def iM:Fn:= { aY:=3,vars:=[0,1,2,3,6],body:=(q [w 3 (.bx v0 2),x 4 (.i 0)] [] (q [h 2 v3,m v1,m v2,u (.ca N.gK 0 [] []),u (.ca N.dP 0 [] [.l 3,.l 2,.l 1,.l 0]),x 4 l0] [(0,4)] .ret)),res:=[(4,none)]}
def dP:Fn:= { aY:=4,vars:=[0,1,2,3,4,7,8,9,10,11],body:=(q [w 4 (.bx v0 2),w 5 (.bx v3 3),x 6 (.i 0)] [] (q [f 1 v4,g l0,m v1,a 10 l1 l0,h 10 l0,w 7 (.al [z0,z0,z0,z0,z1,z1,z0,z0,z0,z0] []),u (.st l0 l1 10 [])] [] (.seq (.ite [f 5 v7,g l0,m l0,y 0 false (.fa v7 4),i 1 false l0,y 2 false (.un .not l0),u (.pk l3 (.b true) l0)] [] 0 (q [w 6 (.mv (.i (-1)))] [] .ret) .skip) (q [f 0 v4,g l0,f 1 v7,g l0,a 2 l2 l0,f 0 l0,g l0,f 0 v4,g l0,f 0 v7,g l0,a 2 l2 l0,f 0 l0,g l0,u (.bin .sub l7 l0),x 8 l0] [] (.seq (.ite [m v2] [] 0 (.reg [m v8,u (.un .neg l0),x 8 l0] []) .skip) (q [f 2 v5,g l0,x 9 l0] [] (.seq (.blk 0 (.ite [m v8,u (.bin .mul (.i 10) l0),f 2 v7,g l0,u (.bin .gtr l2 l0),m l0] [] 0 (.reg [f 0 v5,g l0,x 9 l0] []) (.ite [m v8,u (.bin .mul (.i (-10)) l0),f 2 v7,g l0,u (.bin .gtr l2 l0),m l0] [] 0 (.reg [f 1 v5,g l0,x 9 l0] []) .skip))) (q [f 2 v7,g l0,u (.bin .mul (.i 10) l0),m v9,u (.bin .add l1 l0),u (.bin .sub l0 (.i 1)),m v9,u (.bin .quo l1 l0),x 6 l0] [] .ret)))))))),res:=[(6,none)]}
def gK:Fn:= { aY:=0,vars:=[0],body:=(q [w 0 (.al [z0,z0,z0] [])] [] (q [u (.bd [z0,z0,z0] [(0,1,.i 6),(1,1,.i 9),(2,1,.i 12)]),u (.st v0 l0 3 [])] [] .ret)),res:=[(0,some (3,true))]}
end Go.Ev.K
namespace Go.Ev
class gg [Lib]:Prop where
 oL:Lib.fs N.fV=some K.fV
 nO:Lib.fs N.dI=some K.dI
 iS:Lib.fs N.bR=some K.bR
 oM:Lib.fs N.dt=some K.dt
 kM:Lib.fs N.cR=some K.cR
 gP:Lib.fs N.aT=some K.aT
 pW:Lib.fs N.gl=some K.gl
 eV:Lib.fs N.aH=some K.aH
 jO:Lib.fs N.b9=some K.b9
 lU:Lib.fs N.dy=some K.dy
 jP:Lib.fs N.cN=some K.cN
 jx:Lib.fs N.aZ=some K.aZ
 jQ:Lib.fs N.bH=some K.bH
 qm:Lib.fs N.iL=some K.iL
 qn:Lib.fs N.iM=some K.iM
 qo:Lib.fs N.dP=some K.dP
 oN:Lib.fs N.gK=some K.gK
namespace K
variable [Lib] [gg]
theorem oL:Lib.fs N.fV=some K.fV:=gg.oL
theorem nO:Lib.fs N.dI=some K.dI:=gg.nO
theorem iS:Lib.fs N.bR=some K.bR:=gg.iS
theorem oM:Lib.fs N.dt=some K.dt:=gg.oM
theorem kM:Lib.fs N.cR=some K.cR:=gg.kM
theorem gP:Lib.fs N.aT=some K.aT:=gg.gP
theorem pW:Lib.fs N.gl=some K.gl:=gg.pW
theorem eV:Lib.fs N.aH=some K.aH:=gg.eV
theorem jO:Lib.fs N.b9=some K.b9:=gg.jO
theorem lU:Lib.fs N.dy=some K.dy:=gg.lU
theorem jP:Lib.fs N.cN=some K.cN:=gg.jP
theorem jx:Lib.fs N.aZ=some K.aZ:=gg.jx
theorem jQ:Lib.fs N.bH=some K.bH:=gg.jQ
theorem qm:Lib.fs N.iL=some K.iL:=gg.qm
theorem qn:Lib.fs N.iM=some K.iM:=gg.qn
theorem qo:Lib.fs N.dP=some K.dP:=gg.qo
theorem oN:Lib.fs N.gK=some K.gK:=gg.oN
end K
end Go.Ev
namespace Go.Ev
open Go
variable [Lib] [cH] [b7] [fG] [fH] [iC] [gg]
abbrev Ax(l:List Int):Obj:= .arr 1 false 0 ((l.map (T.int .i64)).map .t)
theorem Gb(l:List Int)(hl:l.length≤1000000):aS 0 N.aH [.t (tL l)] []=some (.t (tL l),[]):=by
 refine aE K.eV rfl ?_
 by_cases h0:l=[]
 · subst h0
   simp only[tL,List.map_nil]
   simp(disch:=omega)only[go_sem,K.aH,↓reduceIte,List.map_nil,reduceAdd,reduceSub]
 · have e:=fun H=>tZ H (l.map (T.int .i64)) (by simpa using h0)
   simp(disch:=omega)only[go_sem,K.aH,↓reduceIte,e,reduceAdd,reduceSub]
theorem ve(l:List Int)(hl:l.length≤1000000):aS 1 N.aH [.t (tL l)] []=some (.ref 0 0 l.length,[Ax l]):=by
 refine aE K.eV rfl ?_
 by_cases h0:l=[]
 · subst h0
   simp only[tL,List.map_nil]
   simp(disch:=omega)only[go_sem,K.aH,↓reduceIte,List.map_nil,List.length_nil,reduceAdd,reduceSub]
   rfl
 · have e:=fun H=>tZ H (l.map (T.int .i64)) (by simpa using h0)
   simp(disch:=omega)only[go_sem,K.aH,↓reduceIte,e,reduceAdd,reduceSub]
theorem uc(a b:List Int)(hl:a.length≤4294967296)(hl2:b.length≤4294967296):aS 0 N.aT [.t (tL a),.t (tL b)] []=some (B (decide (a=b)),[]):=by
 refine aE K.gP rfl ?_
 by_cases hlen:a.length=b.length
 · have loop:∀z2 z3:D,exS aS K.jw ⟨[.t (tL a),.t (tL b),z2,z3,I a.length,I 0],[]⟩=
    some (match (List.range a.length).find? (fun j=>decide (nth a j≠nth b j))with
     | some j=>(.ret,⟨[.t (tL a),.t (tL b),B false,I j,I a.length,I j],[]⟩)
     | none=>(.exit 0,⟨[.t (tL a),.t (tL b),.und,.und,I a.length,I a.length],[]⟩)):=by
    intro z2 z3
    refine de (fun j=>⟨[.t (tL a),.t (tL b),.und,.und,I a.length,I j],[]⟩) a.length (fun j=>decide (nth a j≠nth b j)) _ _ rfl ?_ ?_ ?_ (by simp)
    · intro j hj hp
      have hp:nth a j=nth b j:=by simpa using hp
      simp(disch:=omega)only[go_sem,K.dW,↓reduceIte,reduceAdd,reduceSub]
    · intro j hj hp
      have hp:nth a j≠nth b j:=by simpa using hp
      simp(disch:=omega)only[go_sem,K.dW,↓reduceIte,reduceAdd,reduceSub]
      simp
    · simp(disch:=omega)only[go_sem,K.dW,↓reduceIte,reduceAdd,reduceSub]
   have e:(a=b)↔(List.range a.length).find? (fun j=>decide (nth a j≠nth b j))=none:=by
    rw[List.find?_eq_none]
    constructor
    · intro h j _;simp[h]
    · intro h
      apply List.ext_getElem?
      intro j
      by_cases hj:j<a.length
      · rw[gq hj,gq (by omega)]
        have:=h j (aLu.2 hj)
        simpa using this
      · rw[aLm (by omega),aLm (by omega)]
   cases hf:(List.range a.length).find? (fun j=>decide (nth a j≠nth b j))with
   | some j=>
     rw[hf]at e loop
     have e:¬a=b:=fun h=>by have:=e.1 h;cases this
     simp(disch:=omega)only[go_sem,K.aT,↓reduceIte,loop,e,decide_false,reduceAdd,reduceSub]
   | none=>
     rw[hf]at e loop
     have e:a=b:=e.2 rfl
     simp(disch:=omega)only[go_sem,K.aT,↓reduceIte,loop,decide_eq_true e,reduceAdd,reduceSub]
 · have hne:a≠b:=fun h=>hlen (by rw[h])
   simp(disch:=omega)only[go_sem,K.aT,↓reduceIte,hne,decide_false,reduceAdd,reduceSub]
theorem II:aS 0 N.gK [] []=some (.t (.agg [tI 6,tI 9,tI 12]),[]):=by
 refine aE K.oN rfl ?_
 simp(disch:=omega)only[go_sem,K.gK,↓reduceIte,reduceAdd,reduceSub]
theorem NA{m:bV}(h:m.ok)(k:Nat)(hk:k<m.roads.length)(back:Bool)(up down level:Int)(hu:1≤up)(hu2:up≤100)(hd:1≤down)(hd2:down≤100)(hl:1≤level)(hl2:level≤100):
 aS 0 N.dP [.t m.e,I k,B back,.t (.agg [tI up,tI down,tI level])] []=some (I (fF m k back up down level),[]):=by
 refine aE K.qo rfl ?_
 have nr:=h.nr
 have np:=h.np
 obtain⟨f0,f1,t0,t1, -,l0,l1, -, -, -, -, -, -, -, -⟩:=h.rs _ (az hk)
 have b1:=h.hs _ (az (l:=m.av) (j:=(nth m.roads k).frm.toNat) (by omega))
 have b2:=h.hs _ (az (l:=m.av) (j:=(nth m.roads k).to.toNat) (by omega))
 have g:(m.roads.map Road.e)[k]?=some (nth m.roads k).e:=fT _ hk
 have p1:(m.av.map Place.e)[(nth m.roads k).frm.toNat]?=some (nth m.av (nth m.roads k).frm.toNat).e:=fT _ (by omega)
 have p2:(m.av.map Place.e)[(nth m.roads k).to.toNat]?=some (nth m.av (nth m.roads k).to.toNat).e:=fT _ (by omega)
 have key:∀h1 h2:Int, -10000≤h1→h1≤10000→ -10000≤h2→h2≤10000→IntKind.i64.wrap (h1-h2)=h1-h2∧IntKind.i64.wrap (-(h1-h2))=h2-h1:=fun h1 h2 _ _ _ _=>⟨bz (by omega) (by omega),by rw[bz (by omega) (by omega)];omega⟩
 unfold fF
 generalize nth m.roads k=x at*
 obtain⟨frm,to,len,area,walk,closed,rl,rh,ll,lh⟩:=x
 simp only at f0 f1 t0 t1 l0 l1 b1 b2 p1 p2 ⊢
 cases closed with
 | true=>
   obtain⟨av,roads⟩:=m
   simp(disch:=omega)only[go_sem,K.dP,↓reduceIte,g,reduceAdd,reduceSub]
 | false=>
   cases walk with
   | false=>
     obtain⟨av,roads⟩:=m
     simp(disch:=omega)only[go_sem,K.dP,↓reduceIte,g,reduceAdd,reduceSub]
   | true=>
     have g1:=qi (a:=10*len+up-1) (b:=up) (by omega) hu
     have g2:=qi (a:=10*len+down-1) (b:=down) (by omega) hd
     have g3:=qi (a:=10*len+level-1) (b:=level) (by omega) hl
     cases back with
     | true=>
       simp only[↓reduceIte]
       generalize nth m.av frm.toNat=q1 at*
       generalize nth m.av to.toNat=q2 at*
       obtain⟨h1,s1⟩:=q1
       obtain⟨h2,s2⟩:=q2
       obtain⟨av,roads⟩:=m
       simp only at*
       obtain⟨w2,w3⟩:=key h2 h1 (by omega) (by omega) (by omega) (by omega)
       by_cases c2:len< -10*(h1-h2)
       · simp(disch:=omega)only[go_sem,K.dP,↓reduceIte,g,p1,p2,w2,w3,gt_iff_lt,Int.zero_sub,reduceAdd,reduceSub]
       · by_cases c1:len<10*(h1-h2)
         · simp(disch:=omega)only[go_sem,K.dP,↓reduceIte,g,p1,p2,w2,w3,gt_iff_lt,Int.zero_sub,reduceAdd,reduceSub]
         · simp(disch:=omega)only[go_sem,K.dP,↓reduceIte,g,p1,p2,w2,w3,gt_iff_lt,Int.zero_sub,reduceAdd,reduceSub]
     | false=>
       simp only[aLt,↓reduceIte]
       generalize nth m.av frm.toNat=q1 at*
       generalize nth m.av to.toNat=q2 at*
       obtain⟨h1,s1⟩:=q1
       obtain⟨h2,s2⟩:=q2
       obtain⟨av,roads⟩:=m
       simp only at*
       obtain⟨w2,w3⟩:=key h2 h1 (by omega) (by omega) (by omega) (by omega)
       by_cases c2:len< -10*(h2-h1)
       · simp(disch:=omega)only[go_sem,K.dP,↓reduceIte,g,p1,p2,w2,gt_iff_lt,reduceAdd,reduceSub]
       · by_cases c1:len<10*(h2-h1)
         · simp(disch:=omega)only[go_sem,K.dP,↓reduceIte,g,p1,p2,w2,gt_iff_lt,reduceAdd,reduceSub]
         · simp(disch:=omega)only[go_sem,K.dP,↓reduceIte,g,p1,p2,w2,gt_iff_lt,reduceAdd,reduceSub]
theorem IJ{m:bV}(h:m.ok)(k:Nat)(hk:k<m.roads.length)(back:Bool):aS 0 N.iL [.t m.e,I k,B back] []=some (I (fF m k back 6 9 12),[]):=by
 have q:=II
 have w:=NA h k hk back 6 9 12 (by omega) (by omega) (by omega) (by omega) (by omega) (by omega)
 have v:=oK h
 have nr:=h.nr
 have s:aS 0 N.iM [.t m.e,I k,B back] []=some (I (fF m k back 6 9 12),[]):=by
  refine aE K.qn rfl ?_
  generalize fF m k back 6 9 12=r at*
  obtain⟨av,roads⟩:=m
  simp(disch:=omega)only[go_sem,K.iM,↓reduceIte,q,w,reduceAdd,reduceSub]
 refine aE K.qm rfl ?_
 generalize fF m k back 6 9 12=r at*
 obtain⟨av,roads⟩:=m
 simp only at*
 simp(disch:=omega)only[go_sem,K.iL,↓reduceIte,v,s,reduceAdd,reduceSub]
theorem NB(q:Int):aS 0 N.dt [I q] []=some (B true,[]):=by
 refine aE K.oM rfl ?_
 simp(disch:=omega)only[go_sem,K.dt,↓reduceIte,reduceAdd,reduceSub]
theorem IK(q:Int)(l:List Int)(hl:l.length≤4294967296):aS 0 N.b9 [I q,.bp 0 0] [.box [.t (tL l)]]=some (B (decide (q∈l)),[.box [.t (tL l)]]):=by
 refine aE K.jO rfl ?_
 have c:=uZ l q hl
 simp(disch:=omega)only[go_sem,K.b9,↓reduceIte,c,reduceAdd,reduceSub]
end Go.Ev
namespace Go.Ev.K
open Go.Ev
def cB:Fn:= { aY:=2,vars:=[0,1,2,3,4],body:=(q [w 2 (.bx v0 2),w 3 (.bx v1 1),w 4 (.mv (.c (.nil)))] [] (q [f 1 v2,g l0,u (.ln l0),u (.mf N.bF [.v 2,.v 3]),u (.ca N.dY 0 [] [.l 1,.l 0]),x 4 l0] [] .ret)),res:=[(4,none)]}
def bF:Fn:= { aY:=3,vars:=[0,1,2,4],body:=(q [x 3 (.b false)] [] (q [f 1 v1,g l0,m v0,a 1 l1 l0,g l0,g v2,u (.bin .leq l1 l0),x 3 l0] [] .ret)),res:=[(3,none)]}
end Go.Ev.K
namespace Go.Ev
class jy [Lib]:Prop where
 jR:Lib.fs N.cB=some K.cB
 iZ:Lib.fs N.bF=some K.bF
namespace K
variable [Lib] [jy]
theorem jR:Lib.fs N.cB=some K.cB:=jy.jR
theorem iZ:Lib.fs N.bF=some K.bF:=jy.iZ
end K
end Go.Ev
namespace Go.Ev.N
def Hm:Nat:=215
def Hn:Nat:=216
def Ho:Nat:=217
def NC:Nat:=218
def ND:Nat:=219
def NF:Nat:=220
def Qh:Nat:=221
def Qi:Nat:=222
def Qj:Nat:=223
def Tj:Nat:=224
def NG:Nat:=225
def NH:Nat:=226
def NI:Nat:=227
def Tk:Nat:=228
def NJ:Nat:=229
def NK:Nat:=230
def Qk:Nat:=231
def Km:Nat:=232
def Ql:Nat:=233
def Kn:Nat:=234
def Ko:Nat:=235
def Kp:Nat:=236
def Qm:Nat:=237
def Kq:Nat:=238
def Tl:Nat:=239
def Tm:Nat:=240
def Bl:Nat:=241
def Qn:Nat:=242
def NL:Nat:=243
def Hp:Nat:=244
end Go.Ev.N
namespace Go.Ev.K
open Go.Ev
end Go.Ev.K
namespace Go.Ev
class fg [Lib]:Prop where
namespace K
variable [Lib] [fg]
end K
end Go.Ev
namespace Go.Ev
open Go
variable [Lib] [cH] [b7] [gI] [gy] [jy] [fG] [fH] [iC] [gg] [fg]
end Go.Ev
namespace Go.Ev
open Go
theorem Bm{d:D}{n:Int}(h:BS d=some n):d= .t (.int .i64 n):=by
 unfold BS at h
 split at h
 · cases h;rfl
 · cases h
theorem Gc:∀ {es:List D} {l:List Int},bK BS es=some l→es=l.map fun x=> .t (.int .i64 x)
 | [],l,h=>by simp[bK]at h;subst h;rfl
 | e::r,l,h=>by
   simp only[bK,aLa,aLb]at h
   obtain⟨x,hx,y,hy,rfl⟩:=h
   rw[Bm hx,Gc hy];rfl
theorem vf(x:Int):∀l,(KH x l).Perm (x::l)
 | []=> .refl _
 | y::r=>by
   unfold KH
   split
   · exact .refl _
   · exact((vf x r).cons y).trans (.swap x y r)
theorem je:∀l,(fE l).Perm l
 | []=> .refl _
 | x::r=>(vf x _).trans ((je r).cons x)
theorem Gd{x:Int}:∀ {l:List Int},l.Pairwise (· ≤ ·)→(KH x l).Pairwise (· ≤ ·)
 | [],_=>by simp[KH]
 | y::r,h=>by
   unfold KH
   split
   · rename_i hx
     refine List.pairwise_cons.2 ⟨fun z hz=>?_,h⟩
     rcases List.mem_cons.1 hz with rfl | hz
     · exact hx
     · have:=(List.pairwise_cons.1 h).1 z hz;omega
   · rename_i hx
     have h':=List.pairwise_cons.1 h
     refine List.pairwise_cons.2 ⟨fun z hz=>?_,Gd h'.2⟩
     have hz:=(vf x r).mem_iff.1 hz
     rcases List.mem_cons.1 hz with rfl | hz
     · omega
     · exact h'.1 z hz
theorem rC:∀l,(fE l).Pairwise (· ≤ ·)
 | []=> .nil
 | x::r=>Gd (rC r)
theorem gA(l:List Int):(fE l).length=l.length:=(je l).length_eq
theorem x4(l:List Int):(l.mergeSort fun x y=>decide (x≤y))=fE l:=by
 refine List.Perm.eq_of_pairwise (le:=(· ≤ ·)) (fun a b _ _ h1 h2=>by omega) ?_ (rC l) ((List.mergeSort_perm _ _).trans (je l).symm)
 have:=List.pairwise_mergeSort (le:=fun x y:Int=>decide (x≤y)) (fun a b c=>by simp;omega) (fun a b=>by simp;omega) l
 exact this.imp (by simp)
end Go.Ev
namespace Go.Ev
open Go
variable [Lib] [cH] [b7] [gI] [gy] [jy] [fG] [fH] [iC] [gg] [fg]
section
variable (k : Keys) (hl : k.keys.length ≤ 1000000) (hr : k.roads.length ≤ 1000000)
include hl hr
end
end Go.Ev
namespace Go.Ev
open Go
variable [Lib] [cH] [b7] [gI] [gy] [jy] [fG] [fH] [iC] [gg] [fg]
theorem YS{a b:List Int}(ha:a.Pairwise (· ≤ ·))(hb:b.Pairwise (· ≤ ·))(p:a.Perm b):a=b:=
 List.Perm.eq_of_pairwise (le:=(· ≤ ·)) (fun a b _ _ h1 h2=>by omega) ha hb p
section
variable (b u v y : Obj) (ds : ah)
end
end Go.Ev
namespace Go.Ev.N
def CE:Nat:=245
def Bo:Nat:=246
def Bp:Nat:=247
def NM:Nat:=248
def IL:Nat:=249
def NN:Nat:=250
def CF:Nat:=251
def Hq:Nat:=252
def Ge:Nat:=253
def NQ:Nat:=254
def Kr:Nat:=255
def Qo:Nat:=256
def dm:Nat:=257
def DJ:Nat:=258
def nC:Nat:=259
def bO:Nat:=260
def a7:Nat:=261
def dQ:Nat:=262
def aQ:Nat:=263
def ai:Nat:=264
def cT:Nat:=265
def nV:Nat:=266
def aN:Nat:=267
def cg:Nat:=268
def ay:Nat:=269
def cmp_isNaN_int:Nat:=270
end Go.Ev.N
namespace Go.Ev.K
open Go.Ev
def bI:C:= (.its [u (.bin .lss v10 v9)] [] 0 .skip (.exit 0) (.seq (.blk 1 (q [m v10,a 2 v8 v10,h 2 l0,w 7 (.al [.nil,.nil] []),x 6 l3,u (.st l1 l2 2 [])] [] (.blk 2 (.ite [f 0 v7,g l0,u (.ln l0),u (.ca N.cK 0 [] [.l 0,.i 1,.i 12]),u (.un .not l0),m l0,y 0 false (.fa v7 1),i 1 false l0,y 2 false (.ln l0),y 3 false (.fa v7 0),i 4 false l0,y 5 false (.ln l0),y 6 false (.bin .neq l3 l0),u (.pk l7 (.b true) l0),m l0,y 0 false (.fa v7 0),i 1 false l0,y 2 false (.ca N.dQ 0 [] [.l 0]),y 3 false (.un .not l0),u (.pk l4 (.b true) l0),m l0] [] 0 (q [x 4 (.b false)] [] .ret) (.ite [f 0 v7,g l0,u (.ca N.a7 0 [] [.l 0]),u (.ca N.bO 0 [] [.l 0]),m v5,u (.ca N.aT 0 [] [.l 1,.l 0]),u (.un .not l0),m l0] [] 0 (q [x 4 (.b false)] [] .ret) (.ite [m v6,u (.bin .gtr l0 (.i 0)),m l0,y 0 true (.fa v3 0),i 1 true l0,e 2 true v6,y 3 true (.bin .sub l0 (.i 1)),y 4 true (.ia l2 l0 2),y 5 true (.fa l0 0),i 6 true l0,y 7 true (.fa v7 0),i 8 true l0,y 9 true (.ca N.aQ 0 [] [.l 2,.l 0]),y 10 true (.bin .geq l0 (.i 0)),u (.pk l11 l0 (.b false)),m l0] [] 0 (q [x 4 (.b false)] [] .ret) (.ite [f 1 v7,g l0,u (.mf N.cT [.v 2]),u (.ca N.ai 0 [] [.l 1,.l 0]),m l0] [] 0 (q [x 4 (.b false)] [] .ret) .skip))))))) (.reg [u (.bin .add v10 (.i 1)),x 10 l0] [])))
def lV:C:= .loop true [0,1,4,6,7] K.bI
def dm:Fn:= { aY:=2,vars:=[0,1,2,3,4,5,6,7,26,27,28],body:=(q [w 2 (.bx v0 2),w 3 (.bx v1 1),x 4 (.b false)] [] (.seq (.ite [h 2 v2,u (.ca N.dV 0 [] [.l 0]),u (.un .not l0),m l0,y 0 false (.fa v3 0),i 1 false l0,y 2 false (.ln l0),y 3 false (.ca N.cK 0 [] [.l 0,.i 1,.i 24]),y 4 false (.un .not l0),u (.pk l5 (.b true) l0)] [] 0 (q [x 4 (.b false)] [] .ret) .skip) (q [f 0 v3,g l0,a 2 l0 (.i 0),f 0 l0,g l0,u (.ca N.a7 0 [] [.l 0]),u (.ca N.bO 0 [] [.l 0]),x 5 l0] [] (.seq (q [f 0 v3,w 8 (.ld l0 1 false),w 9 (.ln l0),x 10 (.i 0)] [] (.blk 0 K.lV)) (q [x 4 (.b true)] [] .ret))))),res:=[(4,none)]}
def bO:Fn:= { aY:=1,vars:=[2],body:= .fail,res:=[(0,none)],prim:=[2,N.aN]}
def a7:Fn:= { aY:=1,vars:=[0,1,2],body:=(q [w 1 (.bx v0 1),w 2 (.mv (.c (.und)))] [] (q [u (.mf N.aN [.v 1]),x 2 l0] [] .ret)),res:=[(2,none)]}
def dQ:Fn:= { aY:=1,vars:=[0,2,3],body:=(q [x 1 (.b false)] [] (q [m v0,u (.ca N.a7 0 [] [.l 0]),u (.ca N.bO 0 [] [.l 0]),x 2 l0] [] (q [m v2,u (.ca N.dN 0 [] [.l 0,.i 1,.i 65535]),x 1 l0] [] .ret))),res:=[(1,none)]}
def cG:C:= (.its [u (.bin .lss v9 v8)] [] 0 .skip (.exit 0) (.seq (.blk 1 (q [m v9,a 1 v7 v9,g l0,x 3 l2,x 4 l1] [] (.seq (.ite [m v3,m v1,u (.ln l0),u (.bin .geq l2 l0)] [] 0 (q [x 2 (.i 1)] [] .ret) .skip) (q [m v1,m v3,a 1 l1 l0,g l0,x 5 l0] [] (q [m v4,m v5,u (.ca N.cg 0 [] [.l 1,.l 0]),x 6 l0] [] (.ite [m v6,u (.bin .neq l0 (.i 0))] [] 0 (q [m v6,x 2 l0] [] .ret) .skip)))))) (.reg [u (.bin .add v9 (.i 1)),x 9 l0] [])))
def iN:C:= .loop true [2,3,4,5,6] K.cG
def aQ:Fn:= { aY:=2,vars:=[0,1,4,5,6,7,8,9,10,11],body:=(q [x 2 (.i 0)] [] (.seq (q [x 7 v0,w 8 (.ln l0),x 9 (.i 0)] [] (.blk 0 K.iN)) (.seq (.ite [m v0,u (.ln l0),m v1,u (.ln l0),u (.bin .lss l2 l0)] [] 0 (q [w 2 (.mv (.i (-1)))] [] .ret) .skip) (q [x 2 (.i 0)] [] .ret)))),res:=[(2,none)]}
def ai:Fn:= { aY:=2,vars:=[0,1,4],body:=(q [x 2 (.b false)] [] (q [m v0,m v1,u (.ca N.ay 0 [] [.l 1,.l 0]),u (.bin .geq l0 (.i 0)),x 2 l0] [] .ret)),res:=[(2,none)]}
def cT:Fn:= { aY:=2,vars:=[0,1,2,3],body:=(q [w 2 (.bx v0 2),x 3 (.b false)] [] (q [h 2 v1,h 2 v2,u (.ca N.dw 0 [] [.l 1,.l 0]),u (.un .not l0),x 3 l0] [] .ret)),res:=[(3,none)]}
def kN:C:= (.its [u (.bin .lss v5 v4)] [] 0 .skip (.exit 0) (.seq (.blk 1 (q [a 1 v3 v5,g l0,x 2 l0] [] (.ite [m v0,m v2,u (.cw l1 0 [] [.l 0]),u (.un .not l0)] [] 0 .ret .skip))) (.reg [u (.bin .add v5 (.i 1)),x 5 l0] [])))
def kW:C:= .loop true [1,2] K.kN
def aN:Fn:= { aY:=2,vars:=[0,1,4,5,6,7],body:=(q [w 3 (.ld v1 1 false),w 4 (.ln l0),x 5 (.i 0)] [] (.blk 0 K.kW)),res:=[]}
def cg:Fn:= { aY:=2,vars:=[0,1,4,5,6],body:=(q [x 2 (.i 0)] [] (q [m v0,u (.ca N.cmp_isNaN_int 0 [] [.l 0]),x 3 l0] [] (q [m v1,u (.ca N.cmp_isNaN_int 0 [] [.l 0]),x 4 l0] [] (.seq (.ite [m v3] [] 0 (.seq (.ite [m v4] [] 0 (q [x 2 (.i 0)] [] .ret) .skip) (q [w 2 (.mv (.i (-1)))] [] .ret)) .skip) (.seq (.ite [m v4] [] 0 (q [x 2 (.i 1)] [] .ret) .skip) (.seq (.ite [m v0,m v1,u (.bin .lss l1 l0)] [] 0 (q [w 2 (.mv (.i (-1)))] [] .ret) .skip) (.seq (.ite [m v0,m v1,u (.bin .gtr l1 l0)] [] 0 (q [x 2 (.i 1)] [] .ret) .skip) (q [x 2 (.i 0)] [] .ret)))))))),res:=[(2,none)]}
def aX:C:= (.its [u (.bin .lss v5 v4)] [] 0 .skip (.exit 0) (.seq (.blk 1 (q [m v5,x 3 l0] [] (.ite [m v1,m v0,m v3,a 2 l1 l0,h 2 l0,u (.cw l4 0 [] [.l 0])] [] 0 (q [m v3,x 2 l0] [] .ret) .skip))) (.reg [u (.bin .add v5 (.i 1)),x 5 l0] [])))
def cC:C:= .loop true [2,3] K.aX
def ay:Fn:= { aY:=2,vars:=[0,1,4,5,7,8],body:=(q [x 2 (.i 0)] [] (.seq (q [m v0,w 4 (.ln l0),x 5 (.i 0)] [] (.blk 0 K.cC)) (q [w 2 (.mv (.i (-1)))] [] .ret))),res:=[(2,none)]}
def cmp_isNaN_int:Fn:= { aY:=1,vars:=[0,2],body:=(q [x 1 (.b false)] [] (q [m v0,m v0,u (.bin .neq l1 l0),x 1 l0] [] .ret)),res:=[(1,none)]}
end Go.Ev.K
namespace Go.Ev
class eb [Lib]:Prop where
 nD:Lib.fs N.dm=some K.dm
 i4:Lib.fs N.bO=some K.bO
 gu:Lib.fs N.a7=some K.a7
 lW:Lib.fs N.dQ=some K.dQ
 fW:Lib.fs N.aQ=some K.aQ
 br:Lib.fs N.ai=some K.ai
 kO:Lib.fs N.cT=some K.cT
 iP:Lib.fs N.aN=some K.aN
 jS:Lib.fs N.cg=some K.cg
 bA:Lib.fs N.ay=some K.ay
 kP:Lib.fs N.cmp_isNaN_int=some K.cmp_isNaN_int
namespace K
variable [Lib] [eb]
theorem nD:Lib.fs N.dm=some K.dm:=eb.nD
theorem i4:Lib.fs N.bO=some K.bO:=eb.i4
theorem gu:Lib.fs N.a7=some K.a7:=eb.gu
theorem lW:Lib.fs N.dQ=some K.dQ:=eb.lW
theorem fW:Lib.fs N.aQ=some K.aQ:=eb.fW
theorem br:Lib.fs N.ai=some K.ai:=eb.br
theorem kO:Lib.fs N.cT=some K.cT:=eb.kO
theorem iP:Lib.fs N.aN=some K.aN:=eb.iP
theorem jS:Lib.fs N.cg=some K.cg:=eb.jS
theorem bA:Lib.fs N.ay=some K.ay:=eb.bA
theorem kP:Lib.fs N.cmp_isNaN_int=some K.cmp_isNaN_int:=eb.kP
end K
end Go.Ev
namespace Go.Ev
open Go
variable [Lib] [cH] [b7] [gI] [gy] [jy] [fG] [fH] [iC] [gg] [fg] [eb]
theorem vg(l:List Int):aS 0 N.a7 [.t (tL l)] []=some (.fn N.aN [.bp 0 0],[.box [.t (tL l)]]):=by
 refine aE K.gu rfl ?_
 simp(disch:=omega)only[go_sem,K.a7,↓reduceIte,reduceAdd,reduceSub]
theorem DK(l:List Int):rY (tL l)=some l:=by
 unfold rY
 simp only
 induction l with
 | nil=>rfl
 | cons x l ih=>
   simp only[List.map_cons,bK]at ih ⊢
   rw[ih];rfl
theorem vi(l:List Int)(hl:l.length≤1000000):aS 0 N.bO [.fn N.aN [.bp 0 0]] [.box [.t (tL l)]]=some (.t (tL (fE l)),[.box [.t (tL l)]]):=by
 refine zo K.i4 (by decide) ?_
 show qC [2,N.aN] _ _=_
 simp only[qC,if_true,List.getElem?_cons_zero,pw,aLq,DK]
 rw[if_pos (by unfold lim;omega)]
theorem CG(a:Int):aS 0 N.cmp_isNaN_int [I a] []=some (B false,[]):=by
 refine aE K.kP rfl ?_
 simp(disch:=omega)only[go_sem,K.cmp_isNaN_int,↓reduceIte,decide_true,Bool.not_true,reduceAdd,reduceSub]
def Gf(a b:Int):Int:=if a<b then -1 else if b<a then 1 else 0
theorem Ks(a b:Int):aS 0 N.cg [I a,I b] []=some (I (Gf a b),[]):=by
 refine aE K.jS rfl ?_
 have h1:=CG a
 have h2:=CG b
 unfold Gf
 by_cases c1:a<b
 · simp(disch:=omega)only[go_sem,K.cg,↓reduceIte,h1,h2,c1,aLt,reduceAdd,reduceSub]
 · by_cases c2:b<a
   · simp(disch:=omega)only[go_sem,K.cg,↓reduceIte,h1,h2,c1,c2,aLt,reduceAdd,reduceSub]
   · simp(disch:=omega)only[go_sem,K.cg,↓reduceIte,h1,h2,c1,c2,aLt,reduceAdd,reduceSub]
def CH(a b:List Int)(j:Nat):Bool:=decide (b.length≤j)||decide (nth a j≠nth b j)
def vR(a b:List Int):Int:=match (List.range a.length).find? (CH a b)with
 | some j=>if b.length≤j then 1 else Gf (nth a j) (nth b j)
 | none=>if a.length<b.length then -1 else 0
theorem xd(a b:List Int)(ha:a.length≤1000000)(hb:b.length≤1000000):aS 0 N.aQ [.t (tL a),.t (tL b)] []=some (I (vR a b),[]):=by
 refine aE K.fW rfl ?_
 have loop:∀z2 z3 z4 z5 z6:D,exS aS K.iN ⟨[.t (tL a),.t (tL b),z2,z3,z4,z5,z6,.t (tL a),I a.length,I 0],[]⟩=
  some (match (List.range a.length).find? (CH a b)with
   | some j=>(.ret,⟨[.t (tL a),.t (tL b),I (if b.length≤j then 1 else Gf (nth a j) (nth b j)),I j,I (nth a j),if b.length≤j then .und else I (nth b j),if b.length≤j then .und else I (Gf (nth a j) (nth b j)),.t (tL a),I a.length,I j],[]⟩)
   | none=>(.exit 0,⟨[.t (tL a),.t (tL b),.und,.und,.und,.und,.und,.t (tL a),I a.length,I a.length],[]⟩)):=by
  intro z2 z3 z4 z5 z6
  refine de (fun j=>⟨[.t (tL a),.t (tL b),.und,.und,.und,.und,.und,.t (tL a),I a.length,I j],[]⟩) a.length (CH a b) _ _ rfl ?_ ?_ ?_ (by simp)
  · intro j hj hp
    simp only[CH,Bool.or_eq_false_iff,decide_eq_false_iff_not,Decidable.not_not]at hp
    obtain⟨h1,h2⟩:=hp
    have c:=Ks (nth a j) (nth b j)
    rw[h2]at c
    have e:Gf (nth b j) (nth b j)=0:=by unfold Gf;rw[if_neg (by omega),if_neg (by omega)]
    rw[e]at c
    simp(disch:=omega)only[go_sem,K.cG,↓reduceIte,h2,c,reduceAdd,reduceSub]
  · intro j hj hp
    refine⟨?_,by simp⟩
    by_cases h1:b.length≤j
    · rw[if_pos h1,if_pos h1,if_pos h1]
      simp(disch:=omega)only[go_sem,K.cG,↓reduceIte,reduceAdd,reduceSub]
    · rw[if_neg h1,if_neg h1,if_neg h1]
      have h2:nth a j≠nth b j:=by simpa [CH,h1]using hp
      have c:=Ks (nth a j) (nth b j)
      have e:Gf (nth a j) (nth b j)≠0:=by
       unfold Gf;split
       · omega
       · split<;>omega
      generalize Gf (nth a j) (nth b j)=v at*
      simp(disch:=omega)only[go_sem,K.cG,↓reduceIte,c,e,reduceAdd,reduceSub]
  · simp(disch:=omega)only[go_sem,K.cG,↓reduceIte,reduceAdd,reduceSub]
 unfold vR
 cases hf:(List.range a.length).find? (CH a b)with
 | some j=>
   simp only[hf]at loop
   simp(disch:=omega)only[go_sem,K.aQ,↓reduceIte,loop,reduceAdd,reduceSub]
 | none=>
   simp only[hf]at loop
   by_cases h:a.length<b.length
   · simp(disch:=omega)only[go_sem,K.aQ,↓reduceIte,loop,h,reduceAdd,reduceSub]
   · simp(disch:=omega)only[go_sem,K.aQ,↓reduceIte,loop,h,reduceAdd,reduceSub]
end Go.Ev
namespace Go.Ev
open Go
variable [Lib] [cH] [b7]
theorem rD:∀ {l l':List Int},l.Nodup→(∀x∈l,x∈l')→l.length≤l'.length
 | [],_,_,_=>by simp
 | a::l,l',hn,hs=>by
   obtain⟨h1,h2⟩:=List.nodup_cons.1 hn
   have ha:a∈l':=hs a List.mem_cons_self
   have:=rD (l:=l) (l':=l'.erase a) h2 fun x hx=>by
    have hne:x≠a:=fun e=>h1 (e▸hx)
    exact(List.mem_erase_of_ne hne).2 (hs x (List.mem_cons_of_mem _ hx))
   have h3:=List.length_erase_of_mem ha
   have h4:0<l'.length:=List.length_pos_of_mem ha
   simp only[List.length_cons]
   omega
theorem nE{l:List Int}{x:Int}:0≤hX l x↔x∈l:=by
 unfold hX
 cases hf:(List.range l.length).find? (fun j=>decide (nth l j=x))with
 | some j=>
   obtain⟨h1,h2⟩:=uW hf
   have:=az h1
   rw[of_decide_eq_true h2]at this
   simp[this]
 | none=>
   have:=List.find?_eq_none.1 hf
   simp only[Int.reduceNeg]
   constructor
   · intro h;simp at h
   · intro h
     obtain⟨j,hj⟩:=aLf.1 h
     have hl:=(aLe.1 hj).1
     have:=this j (aLu.2 hl)
     rw[bN hj]at this
     simp at this
theorem jz{l:List Int}(h:eM l=true):l.Nodup:=by
 simp only[eM,aLx,aLu,kK,decide_eq_true_eq]at h
 refine List.pairwise_iff_getElem.2 fun i j hi hj hij e=>?_
 obtain⟨-, -,h3⟩:=h j hj
 have h4:¬nth l j∈l.take j:=fun hm=>by have:=nE.2 hm;omega
 apply h4
 apply aLf.2
 refine⟨i,?_⟩
 rw[List.getElem?_take_of_lt hij,aLc hi,e,←aLc hj,gq hj]
theorem mE{m:bV}{b:Bel}(h:yH m b=true):1≤b.bD.length∧b.bD.length≤24∧1≤(nth b.bD 0).tags.length∧(nth b.bD 0).tags.length≤12∧
 ∀i,i<b.bD.length→mB m b.bD (nth b.bD 0).tags i=true:=by
 simp only[yH,aLr,decide_eq_true_eq,aLx,aLu]at h
 exact⟨h.1.1.1,h.1.1.2,h.1.2.1,h.1.2.2,h.2⟩
theorem jT{m:bV}{ws:List World}{first:List Int}{i:Nat}(h:mB m ws first i=true):(nth ws i).tags.length=first.length∧(nth ws i).whr.length=first.length∧eM (nth ws i).tags=true∧
 ∀k,k<(nth ws i).tags.length→nth (nth ws i).tags k∈first∧eY m (nth (nth ws i).whr k)=true:=by
 simp only[mB,aLr,decide_eq_true_eq,aLx,aLu,Er]at h
 exact⟨h.1.1.1.1,h.1.1.1.2,h.1.1.2,fun k hk=>⟨nE.1 (h.2 k hk).1,(h.2 k hk).2⟩⟩
def CI(m:bV)(b:Bel)(tag:Int):Int:=if yH m b=false then 6 else if hX (nth b.bD 0).tags tag<0 then 41 else 0
def zD(a b:Wh)(t:Int):Bool:=(List.range (min a.frm.length b.frm.length)).any fun p=>decide (nth a.frm p≤t∧nth b.frm p≤t)
theorem NR(a b:Wh)(t:Int)(ha:a.frm.length≤1000000):aS 0 N.gC [.t a.e,.t b.e,I t] []=some (B (zD a b t),[]):=by
 refine aE K.ot rfl ?_
 obtain⟨t1,l1⟩:=a
 obtain⟨t2,l2⟩:=b
 unfold zD
 simp only at ha ⊢
 have loop:∀x y z:D,exS aS K.q9 ⟨[x,y,I t,.bp 0 0,.bp 1 0,z,I 0],[.box [I t1,.t (tL l1)],.box [I t2,.t (tL l2)]]⟩=
  some (match (List.range (min l1.length l2.length)).find? (fun p=>decide (nth l1 p≤t∧nth l2 p≤t))with
   | some j=>(.ret,⟨[.und,.und,I t,.bp 0 0,.bp 1 0,B true,I j],[.box [I t1,.t (tL l1)],.box [I t2,.t (tL l2)]]⟩)
   | none=>(.exit 0,⟨[.und,.und,I t,.bp 0 0,.bp 1 0,.und,I (min l1.length l2.length:Nat)],[.box [I t1,.t (tL l1)],.box [I t2,.t (tL l2)]]⟩)):=by
  intro x y z
  refine de (fun j=>⟨[.und,.und,I t,.bp 0 0,.bp 1 0,.und,I j],[.box [I t1,.t (tL l1)],.box [I t2,.t (tL l2)]]⟩) (min l1.length l2.length) (fun p=>decide (nth l1 p≤t∧nth l2 p≤t)) _ _ rfl ?_ ?_ ?_ (by simp)
  · intro j hj hp
    have hp:¬(nth l1 j≤t∧nth l2 j≤t):=of_decide_eq_false hp
    by_cases c:nth l1 j≤t
    · simp(disch:=omega)only[go_sem,K.gF,↓reduceIte,c]
    · simp(disch:=omega)only[go_sem,K.gF,↓reduceIte,c]
  · intro j hj hp
    have hp:nth l1 j≤t∧nth l2 j≤t:=of_decide_eq_true hp
    refine⟨?_,by simp⟩
    simp(disch:=omega)only[go_sem,K.gF,↓reduceIte]
  · by_cases h1:l1.length≤l2.length
    · have e:min l1.length l2.length=l1.length:=by omega
      rw[e]
      simp(disch:=omega)only[go_sem,K.gF,↓reduceIte]
    · have e:min l1.length l2.length=l2.length:=by omega
      rw[e]
      simp(disch:=omega)only[go_sem,K.gF,↓reduceIte]
 rw[← Cp]
 simp(disch:=omega)only[go_sem,K.gC,↓reduceIte,loop]
 cases hf:(List.range (min l1.length l2.length)).find? (fun p=>decide (nth l1 p≤t∧nth l2 p≤t))with
 | some j=>simp(disch:=omega)only[go_sem,↓reduceIte,Option.isSome]
 | none=>simp(disch:=omega)only[go_sem,↓reduceIte,Option.isSome]
def i5(m:bV)(bW:List Int)(t:Int)(j:Nat):List Wh:=(List.range j).map fun i=>(jF m (nth bW i) t).1
theorem zE(m:bV)(bW:List Int)(t:Int)(j:Nat):i5 m bW t (j+1)=i5 m bW t j++[(jF m (nth bW j) t).1]:=by
 unfold i5;rw[List.range_succ,List.map_append];rfl
@[simp] theorem kQ (m : bV) (bW : List Int) (t : Int) (j : Nat) : (i5 m bW t j).length = j := by simp [i5]
def kx(m:bV)(tags bW:List Int)(t:Int):Bel×Int:=
 if tags.length=bW.length∧1≤tags.length∧tags.length≤12 then
  if eM tags=true then match (List.range tags.length).find? (fun i=> !decide ((jF m (nth bW i) t).2=0))with
   | some i=>(⟨[]⟩,(jF m (nth bW i) t).2)
   | none=>(⟨[⟨tags,i5 m bW t tags.length⟩]⟩,0)
  else(⟨[]⟩,41)
 else(⟨[]⟩,6)
abbrev stH(m:bV)(tags:List Int)(r:D)(ws:List Wh):ah:=[.box (au m),.box [r],.arr 1 false 0 ((tags.map (T.int .i64)).map .t),.box [.ref 2 0 tags.length,.ref 5 0 ws.length],.arr 2 false 0 [],.arr 2 false 0 ((ws.map Wh.e).map .t)]
theorem Bq{m:bV}(h:m.ok)(tags bW:List Int)(hl:tags.length≤1000000)(t:Int):
 aS 0 N.dj [.t m.e,.t (tL tags),.t (tL bW),I t] []=some (.tup [.t (kx m tags bW t).1.e,I (kx m tags bW t).2],[]):=by
 refine aE K.m0 rfl ?_
 have ck:=ru h
 have pr:=zy tags hl
 unfold kx
 by_cases c1:tags.length=bW.length
 · by_cases c2:tags.length<1
   · simp(disch:=omega)only[go_sem,K.dj,↓reduceIte,ck,show ¬(tags.length=bW.length∧1≤tags.length∧tags.length≤12)by omega]
     rfl
   · by_cases c3:12<tags.length
     · simp(disch:=omega)only[go_sem,K.dj,↓reduceIte,ck,show ¬(tags.length=bW.length∧1≤tags.length∧tags.length≤12)by omega]
       rfl
     · have c:tags.length=bW.length∧1≤tags.length∧tags.length≤12:=by omega
       rw[if_pos c]
       clear c
       cases hp:eM tags with
       | false=>
         rw[hp]at pr
         simp(disch:=omega)only[go_sem,K.dj,↓reduceIte,ck,pr,aLt]
         rfl
       | true=>
         rw[hp]at pr
         have loop:∀a b c d:D,exS aS K.pL ⟨[a,.t (tL tags),.t (tL bW),I t,.bp 0 0,.bp 1 0,b,.bp 3 0,I 0,c,d],stH m tags .nil []⟩=
          some (match (List.range tags.length).find? (fun i=> !decide ((jF m (nth bW i) t).2=0))with
           | some i=>(.ret,⟨[.und,.t (tL tags),.t (tL bW),I t,.bp 0 0,.bp 1 0,I (jF m (nth bW i) t).2,.bp 3 0,I i,.bp 6 0,I (jF m (nth bW i) t).2],stH m tags .nil (i5 m bW t i)++[.box [I (jF m (nth bW i) t).1.time,.t (tL (jF m (nth bW i) t).1.frm)]]⟩)
           | none=>(.exit 0,⟨[.und,.t (tL tags),.t (tL bW),I t,.bp 0 0,.bp 1 0,.und,.bp 3 0,I tags.length,.und,.und],stH m tags .nil (i5 m bW t tags.length)⟩)):=by
          intro a b c d
          refine de (fun j=>⟨[.und,.t (tL tags),.t (tL bW),I t,.bp 0 0,.bp 1 0,.und,.bp 3 0,I j,.und,.und],stH m tags .nil (i5 m bW t j)⟩) tags.length _ _ _ rfl ?_ ?_ ?_ (by simp)
          · intro j hj hp
            have st:=Cv h (nth bW j) t
            have ln:=kQ m bW t j
            have hp:(jF m (nth bW j) t).2=0:=by simpa using hp
            rw[zE]
            generalize i5 m bW t j=L at*
            generalize jF m (nth bW j) t=r at*
            obtain⟨⟨time,frm⟩,e⟩:=r
            simp only at st hp ⊢
            subst hp
            simp(disch:=omega)only[go_sem,K.jm,↓reduceIte,stH,st,reduceAdd,reduceSub]
            done
          · intro j hj hp
            have st:=Cv h (nth bW j) t
            have ln:=kQ m bW t j
            have hp:(jF m (nth bW j) t).2≠0:=by simpa using hp
            generalize i5 m bW t j=L at*
            generalize jF m (nth bW j) t=r at*
            obtain⟨⟨time,frm⟩,e⟩:=r
            simp only at st hp ⊢
            refine⟨?_,by simp⟩
            simp(disch:=omega)only[go_sem,K.jm,↓reduceIte,stH,st,reduceAdd,reduceSub]
            done
          · have ln:=kQ m bW t tags.length
            generalize i5 m bW t tags.length=L at*
            simp(disch:=omega)only[go_sem,K.jm,↓reduceIte]
         simp only[stH,List.map_nil,List.length_nil]at loop
         simp(disch:=omega)only[go_sem,K.dj,↓reduceIte,ck,pr,loop]
         cases hf:(List.range tags.length).find? (fun i=> !decide ((jF m (nth bW i) t).2=0))with
         | some i=>
           simp(disch:=omega)only[go_sem,↓reduceIte]
           rfl
         | none=>
           have ln:=kQ m bW t tags.length
           generalize i5 m bW t tags.length=L at*
           simp(disch:=omega)only[go_sem,↓reduceIte]
           rfl
 · simp(disch:=omega)only[go_sem,K.dj,↓reduceIte,ck,show ¬(tags.length=bW.length∧1≤tags.length∧tags.length≤12)by omega]
   rfl
@[go_sem] theorem VZ : ([] : List D).all iT = true := (rfl)
@[go_sem] theorem Tn (d : D) (r : List D) : (d :: r).all iT = (iT d && r.all iT) := (rfl)
@[go_sem] theorem NS (cs : List T) : iT (.t (.agg cs)) = false := (rfl)
@[go_sem] theorem Qp (cs : List T) : iT (.t (.sl cs)) = false := (rfl)
@[go_sem] theorem NT (k : IntKind) (n : Int) : iT (.t (.int k n)) = true := (rfl)
@[go_sem] theorem Kt (b : Bool) : iT (.t (.bool b)) = true := (rfl)
@[go_sem] theorem Z6 (l : List Wh) (k : Nat) (a : Int) (b : List Int) : (List.map D.t (List.map Wh.e l)).set k (D.t (T.agg [tI a, tL b])) = List.map D.t (List.map Wh.e (l.set k ⟨a, b⟩)) := by
 rw[List.map_set,List.map_set]
def V0(m:bV)(tag:Int)(l:List Int)(a b:Int)(x:World):Wh×Int:=aaV m (nth x.whr (hX x.tags tag).toNat) l a b
def Z7(tag:Int)(x:World)(w:Wh):World:=⟨x.tags,x.whr.set (hX x.tags tag).toNat w⟩
def YT(tag:Int)(r:Wh×Int)(x:World)(out:List World):List World:=
 if r.2=43 then out else out++[if r.2=0 then Z7 tag x r.1 else x]
def NU(m:bV)(tag:Int)(l:List Int)(a b:Int)(ws:List World):Nat→List World
 | 0=>[]
 | j+1=>YT tag (V0 m tag l a b (nth ws j)) (nth ws j) (NU m tag l a b ws j)
def To(m:bV)(tag:Int)(l:List Int)(a b:Int)(ws:List World)(j:Nat):Bool:=decide ((V0 m tag l a b (nth ws j)).2=6∨(V0 m tag l a b (nth ws j)).2=8)
def Tp(m:bV)(b:Bel)(tag:Int)(l:List Int)(a c:Int):Bel×Int:=
 if CI m b tag≠0 then(b,CI m b tag)else match (List.range b.bD.length).find? (To m tag l a c b.bD)with
  | some i=>(b,(V0 m tag l a c (nth b.bD i)).2)
  | none=>if(NU m tag l a c b.bD b.bD.length).length=0 then(b,43)else(⟨NU m tag l a c b.bD b.bD.length⟩,0)
def V1(m:bV)(tag:Int)(l:List Int)(a b bl:Int)(x:World):Wh×Int:=aaW m (nth x.whr (hX x.tags tag).toNat) l a b bl
def YU(tag:Int)(r:Wh×Int)(x:World)(out:List World):List World:=out++[if r.2=0 then Z7 tag x r.1 else x]
def Tq(m:bV)(tag:Int)(l:List Int)(a b bl:Int)(ws:List World):Nat→List World
 | 0=>[]
 | j+1=>YU tag (V1 m tag l a b bl (nth ws j)) (nth ws j) (Tq m tag l a b bl ws j)
def Ts(m:bV)(tag:Int)(l:List Int)(a b bl:Int)(ws:List World)(j:Nat):Bool:=decide ((V1 m tag l a b bl (nth ws j)).2=6∨(V1 m tag l a b bl (nth ws j)).2=8)
def Tt(m:bV)(b:Bel)(tag:Int)(l:List Int)(a c bl:Int):Bel×Int:=
 if CI m b tag≠0 then(b,CI m b tag)else match (List.range b.bD.length).find? (Ts m tag l a c bl b.bD)with
  | some i=>(b,(V1 m tag l a c bl (nth b.bD i)).2)
  | none=>(⟨Tq m tag l a c bl b.bD b.bD.length⟩,0)
theorem IM{gc:Bool}{dead:List Nat}{c:C}{vs:List D}{H:ah}(P:Nat→St→Prop)(n:Nat)(Q:Ex×St→Prop)(h0:P 0 ⟨iU dead vs,H⟩)
 (hs:∀j st,j<n→P j st→∃st',dB gc dead st.H.length (exS aS c st)=some st'∧P (j+1) st')
 (he:∀st,P n st→∃q,exS aS c st=some q∧q.1≠ .normal∧Q q):∃q,exS aS (.loop gc dead c) ⟨vs,H⟩=some q∧Q q:=by
 have key:∀(k j:Nat) (st:St),j+k=n→P j st→∃q,kV gc dead (exS aS c) st=some q∧Q q:=by
  intro k
  induction k with
  | zero=>
    intro j st hj hp
    obtain⟨q,h1,h2,h3⟩:=he st (by rw[← hj];exact hp)
    exact⟨q,bE h1 h2,h3⟩
  | succ k ih=>
    intro j st hj hp
    obtain⟨st',h1,h2⟩:=hs j st (by omega) hp
    obtain⟨q,h3,h4⟩:=ih (j+1) st' (by omega) h2
    exact⟨q,cM h1 h3,h4⟩
 exact key n 0 _ (by omega) h0
abbrev ints(l:List Int):List D:=(l.map (T.int .i64)).map .t
abbrev whs(l:List Wh):List D:=(l.map Wh.e).map .t
def cF(out:List World)(x:World):Nat:=match (List.range out.length).find? (fun k=> !oE (nth out k).tags x.tags)with
 | some k=>k
 | none=>out.length
theorem rE(out:List World)(x:World):cF out x≤out.length:=by
 unfold cF
 split
 · rename_i k h;exact Nat.le_of_lt (uW h).1
 · exact aLs _
def jU(a b:List Wh):Nat→List Wh
 | 0=>a
 | p+1=>(jU a b p).set p (iY (nth a p) (nth b p)).1
theorem ib(a b:List Wh):∀p,(jU a b p).length=a.length
 | 0=>rfl
 | p+1=>by simp only[jU,List.length_set,ib a b p]
theorem vj(a b:List Wh):∀p q,p≤q→nth (jU a b p) q=nth a q
 | 0,q,_=>rfl
 | p+1,q,h=>by
   have e:nth ((jU a b p).set p (iY (nth a p) (nth b p)).1) q=nth (jU a b p) q:=by
    unfold nth;rw[aLl,aLi (by omega),←aLl]
   simp only[jU,e]
   exact vj a b p q (by omega)
def gn(a b:List Wh):List Wh:=jU a b (min a.length b.length)
def iE(out:List World)(x:World):List World:=
 if cF out x<out.length∧(nth out (cF out x)).tags=x.tags then out.set (cF out x) ⟨x.tags,gn (nth out (cF out x)).whr x.whr⟩
 else out.take (cF out x)++[x]++out.drop (cF out x)
def pC(l:List World):Nat→List World
 | 0=>[]
 | j+1=>iE (pC l j) (nth l j)
def nF(l:List World):List World:=pC l l.length
structure Rp(H:ah)(id:Nat)(es:List D)(fa fb:Nat→Nat)(out:List World):Prop where
 arr:H[id]?=some (.arr 2 false 0 es)
 len:es.length=out.length
 el:∀j,j<out.length→es[j]?=some (.agg [.ref (fa j) 0 (nth out j).tags.length,.ref (fb j) 0 (nth out j).whr.length])
 ha:∀j,j<out.length→H[fa j]?=some (.arr 1 false 0 (ints (nth out j).tags))
 hb:∀j,j<out.length→H[fb j]?=some (.arr 2 false 0 (whs (nth out j).whr))
 na:∀j,j<out.length→fa j≠id
 nb:∀j,j<out.length→fb j≠id
 nab:∀i j,i<out.length→j<out.length→fa i≠fb j
 nbb:∀i j,i<out.length→j<out.length→i≠j→fb i≠fb j
def Rep(H:ah)(v:D)(out:List World):Prop:=(v= .nil∧out=[])∨∃id es fa fb,v= .ref id 0 out.length∧0<out.length∧Rp H id es fa fb out
theorem NV(l:List World)(i:Nat)(hi:i<l.length)(out:List World)(ho:out.length≤1000000)(hso:∀x∈out,x.sz)(hsx:(nth l i).sz)(H:ah)(v:D)(hr:Rep H v out)(a b:D):
 exS aS K.m7 ⟨[.t (.sl (l.map World.e)),a,v,I i,I 0,b],H⟩=some (.exit 2,⟨[.t (.sl (l.map World.e)),.und,v,I i,I (cF out (nth l i)),.und],H⟩):=by
 rcases hr with⟨rfl,rfl⟩ | ⟨id,es,fa,fb,rfl,h0,hr⟩
 · have:cF [] (nth l i)=0:=rfl
   rw[this]
   refine iX (bE ?_ (by simp))
   simp(disch:=omega)only[go_sem,K.iK,↓reduceIte,reduceAdd,reduceSub]
 · have key:exS aS K.m7 ⟨[.t (.sl (l.map World.e)),a,.ref id 0 out.length,I i,I 0,b],H⟩=some (match (List.range out.length).find? (fun k=> !oE (nth out k).tags (nth l i).tags)with
    | some k=>(.exit 2,⟨[.t (.sl (l.map World.e)),.und,.ref id 0 out.length,I i,I k,.und],H⟩)
    | none=>(.exit 2,⟨[.t (.sl (l.map World.e)),.und,.ref id 0 out.length,I i,I out.length,.und],H⟩)):=by
    refine de (fun k=>⟨[.t (.sl (l.map World.e)),.und,.ref id 0 out.length,I i,I k,.und],H⟩) out.length _ _ _ rfl ?_ ?_ ?_ (by simp)
    · intro k hk hp
      have hp:oE (nth out k).tags (nth l i).tags=true:=by simpa using hp
      have s1:=(hso _ (az hk)).1
      have s2:=hsx.1
      have ls:=Bh (nth out k).tags (nth l i).tags s1 s2
      have e1:=hr.arr
      have e2:=hr.len
      have e3:=hr.el k hk
      have e4:=hr.ha k hk
      generalize nth out k=y at*
      obtain⟨ta,wa⟩:=y
      generalize hx:nth l i=x at*
      obtain⟨tb,wb⟩:=x
      simp only at s1 s2 ls e3 e4 hp
      simp(disch:=omega)only[go_sem,K.iK,↓reduceIte,reduceAdd,reduceSub,e1,e2,e3,e4,hx,ls,hp]
      done
    · intro k hk hp
      have hp:oE (nth out k).tags (nth l i).tags=false:=by simpa using hp
      have s1:=(hso _ (az hk)).1
      have s2:=hsx.1
      have ls:=Bh (nth out k).tags (nth l i).tags s1 s2
      have e1:=hr.arr
      have e2:=hr.len
      have e3:=hr.el k hk
      have e4:=hr.ha k hk
      generalize nth out k=y at*
      obtain⟨ta,wa⟩:=y
      generalize hx:nth l i=x at*
      obtain⟨tb,wb⟩:=x
      simp only at s1 s2 ls e3 e4 hp
      refine⟨?_,by simp⟩
      simp(disch:=omega)only[go_sem,K.iK,↓reduceIte,reduceAdd,reduceSub,e1,e2,e3,e4,hx,ls,hp]
      done
    · simp(disch:=omega)only[go_sem,K.iK,↓reduceIte,reduceAdd,reduceSub]
   rw[key]
   unfold cF
   cases (List.range out.length).find? (fun k=> !oE (nth out k).tags (nth l i).tags)<;>rfl
@[go_sem] theorem V2 (a b : Wh) : (iY a b).1.e = .agg [tI (iY a b).1.time, tL (iY a b).1.frm] := rfl
theorem NW(l:List World)(i:Nat)(hi:i<l.length)(out:List World)(ho:out.length≤1000000)(hso:∀x∈out,x.sz)(hsx:(nth l i).sz)(H:ah)(id:Nat)(es:List D)(fa fb:Nat→Nat)
 (hr:Rp H id es fa fb out) (k:Nat) (hk:k<out.length) (a:D):
 exS aS K.rk ⟨[.t (.sl (l.map World.e)),a,.ref id 0 out.length,I i,I k,I 0],H⟩=
 some (.exit 4,⟨[.t (.sl (l.map World.e)),.und,.ref id 0 out.length,I i,I k,I ((min (nth out k).whr.length (nth l i).whr.length:Nat):Int)],H.set (fb k) (.arr 2 false 0 (whs (gn (nth out k).whr (nth l i).whr)))⟩):=by
 have e1:=hr.arr
 have e2:=hr.len
 have e3:=hr.el k hk
 have e5:=hr.hb k hk
 have e6:=hr.nb k hk
 have e7:=lP e5
 obtain⟨s1,s2,s3⟩:=hso _ (az hk)
 obtain⟨x1,x2,x3⟩:=hsx
 generalize nth out k=y at*
 obtain⟨ta,wa⟩:=y
 generalize hx:nth l i=x at*
 obtain⟨tb,wb⟩:=x
 simp only at s1 s2 s3 x1 x2 x3 e3 e5 ⊢
 have jl:=ib wa wb
 have q1:∀o,(H.set (fb k) o)[id]?=H[id]?:=fun o=>gz e6
 have q2:∀o,(H.set (fb k) o)[fb k]?=some o:=fun o=>pg e7
 refine eK (fun p=>⟨[.t (.sl (l.map World.e)),.und,.ref id 0 out.length,I i,I k,I p],H.set (fb k) (.arr 2 false 0 (whs (jU wa wb p)))⟩) (min wa.length wb.length) ?_ ?_ ?_ (by simp)
 · show(⟨_,H⟩:St)=⟨_,H.set (fb k) (.arr 2 false 0 (whs wa))⟩
   rw[xS e5];rfl
 · intro p hp
   have jp:=jl p
   have jn:=vj wa wb p p (aLs _)
   have jo:=ML (nth wa p) (nth wb p) (s3 _ (az (by omega)))
   have hj:jU wa wb (p+1)=(jU wa wb p).set p (iY (nth wa p) (nth wb p)).1:=rfl
   rw[hj]
   generalize jU wa wb p=J at*
   generalize hu:nth wb p=u at*
   generalize nth wa p=w at*
   generalize iY w u=r at*
   obtain⟨⟨rt,rf⟩,re⟩:=r
   simp only at jo ⊢
   simp(disch:=omega)only[go_sem,K.jW,↓reduceIte,reduceAdd,reduceSub,q1,q2,e1,e2,e3,ph,hx,hu,jn,jo]
 · have jp:=jl (min wa.length wb.length)
   have hj:gn wa wb=jU wa wb (min wa.length wb.length):=rfl
   rw[hj]
   generalize jU wa wb (min wa.length wb.length)=J at*
   by_cases c:wa.length≤wb.length
   · simp(disch:=omega)only[go_sem,K.jW,↓reduceIte,reduceAdd,reduceSub,q1,q2,e1,e2,e3,ph,hx,Nat.min_eq_left c]
   · have hm:min wa.length wb.length=wb.length:=by omega
     simp(disch:=omega)only[go_sem,K.jW,↓reduceIte,reduceAdd,reduceSub,q1,q2,e1,e2,e3,ph,hx,hm]
theorem tB{sz:Nat}{l:List D}(h:∀e∈l,e.cells.length=sz):bJ sz l=true:=by
 cases l with
 | nil=>rfl
 | cons d r=>rw[xY,eG];exact h d List.mem_cons_self
theorem Rp.size{H:ah}{id:Nat}{es:List D}{fa fb:Nat→Nat}{out:List World}(hr:Rp H id es fa fb out):∀e∈es,e.cells.length=2:=by
 intro e he
 obtain⟨j,hj⟩:=aLf.1 he
 have hl:=(aLe.1 hj).1
 rw[hr.el j (by rw[← hr.len];exact hl)]at hj
 cases hj;rfl
theorem Gg{α:Type}(l:List α)(k:Nat)(hk:k≤l.length)(x:α)(j:Nat):(l.take k++[x]++l.drop k)[j]?=if j<k then l[j]? else if j=k then some x else l[j-1]?:=by
 have hl:(l.take k).length=k:=by rw[List.length_take];omega
 rw[List.append_assoc]
 by_cases h1:j<k
 · rw[if_pos h1,aLg (by omega),List.getElem?_take_of_lt h1]
 · rw[if_neg h1,aLh (by omega),hl]
   by_cases h2:j=k
   · rw[if_pos h2,h2,Nat.sub_self];rfl
   · rw[if_neg h2,aLh (by simp;omega)]
     simp only[List.length_singleton,List.getElem?_drop]
     congr 1;omega
theorem Br{α:Type} [Dat α](l:List α)(k:Nat)(hk:k≤l.length)(x:α)(j:Nat):nth (l.take k++[x]++l.drop k) j=if j<k then nth l j else if j=k then x else nth l (j-1):=by
 unfold nth
 rw[aLl,Gg l k hk]
 split
 · rw[aLl]
 · split
   · rfl
   · rw[aLl]
theorem qp{α:Type} [Dat α](l:List α)(k:Nat)(hk:k<l.length)(x:α)(j:Nat):nth (l.set k x) j=if j=k then x else nth l j:=by
 unfold nth
 rw[aLl]
 by_cases h:j=k
 · rw[if_pos h,h,aLj hk];rfl
 · rw[if_neg h,aLi (fun e=>h e.symm),aLl]
theorem Rp.ins{H:ah}{id:Nat}{es:List D}{fa fb:Nat→Nat}{out:List World}(hr:Rp H id es fa fb out){k:Nat}(hk:k≤out.length)(x:World)(o:Obj):
 Rp (H++[.arr 2 false 0 (es.take k++[.agg [.ref (H.length+1) 0 x.tags.length,.ref (H.length+2) 0 x.whr.length]]++es.drop k),.arr 1 false 0 (ints x.tags),.arr 2 false 0 (whs x.whr),o]) H.length
  (es.take k++[.agg [.ref (H.length+1) 0 x.tags.length,.ref (H.length+2) 0 x.whr.length]]++es.drop k)
  (fun j=>if j<k then fa j else if j=k then H.length+1 else fa (j-1)) (fun j=>if j<k then fb j else if j=k then H.length+2 else fb (j-1)) (out.take k++[x]++out.drop k):=by
 have ol:(out.take k++[x]++out.drop k).length=out.length+1:=by
  rw[aLv,aLv,List.length_take,List.length_drop,List.length_singleton];omega
 have e2:=hr.len
 have ba:∀j,j<out.length→fa j<H.length:=fun j hj=>lP (hr.ha j hj)
 have bb:∀j,j<out.length→fb j<H.length:=fun j hj=>lP (hr.hb j hj)
 refine⟨ir,?_,?_,?_,?_,?_,?_,?_,?_⟩
 · rw[ol,aLv,aLv,List.length_take,List.length_drop,List.length_singleton];omega
 · intro j hj
   rw[ol]at hj
   simp only[Gg es k (by omega),Br out k hk]
   by_cases h1:j<k
   · simp only[if_pos h1];exact hr.el j (by omega)
   · by_cases h2:j=k
     · simp only[if_neg h1,if_pos h2]
     · simp only[if_neg h1,if_neg h2];exact hr.el (j-1) (by omega)
 · intro j hj
   rw[ol]at hj
   simp only[Br out k hk]
   by_cases h1:j<k
   · simp only[if_pos h1];rw[iA (ba j (by omega))];exact hr.ha j (by omega)
   · by_cases h2:j=k
     · simp only[if_neg h1,if_pos h2];rw[fU];rfl
     · simp only[if_neg h1,if_neg h2];rw[iA (ba (j-1) (by omega))];exact hr.ha (j-1) (by omega)
 · intro j hj
   rw[ol]at hj
   simp only[Br out k hk]
   by_cases h1:j<k
   · simp only[if_pos h1];rw[iA (bb j (by omega))];exact hr.hb j (by omega)
   · by_cases h2:j=k
     · simp only[if_neg h1,if_pos h2];rw[fU];rfl
     · simp only[if_neg h1,if_neg h2];rw[iA (bb (j-1) (by omega))];exact hr.hb (j-1) (by omega)
 · intro j hj
   rw[ol]at hj
   have b1:=ba j
   have b2:=ba (j-1)
   split
   · have:=b1 (by omega);omega
   · split
     · omega
     · have:=b2 (by omega);omega
 · intro j hj
   rw[ol]at hj
   have b1:=bb j
   have b2:=bb (j-1)
   split
   · have:=b1 (by omega);omega
   · split
     · omega
     · have:=b2 (by omega);omega
 · intro i j hi hj
   rw[ol]at hi hj
   have a1:=ba i
   have a2:=ba (i-1)
   have b1:=bb j
   have b2:=bb (j-1)
   by_cases h1:i<k
   · rw[if_pos h1]
     have:=a1 (by omega)
     by_cases h2:j<k
     · rw[if_pos h2];exact hr.nab i j (by omega) (by omega)
     · rw[if_neg h2]
       by_cases h3:j=k
       · rw[if_pos h3];omega
       · rw[if_neg h3];exact hr.nab i (j-1) (by omega) (by omega)
   · rw[if_neg h1]
     by_cases h4:i=k
     · rw[if_pos h4]
       split
       · have:=b1 (by omega);omega
       · split
         · omega
         · have:=b2 (by omega);omega
     · rw[if_neg h4]
       have:=a2 (by omega)
       by_cases h2:j<k
       · rw[if_pos h2];exact hr.nab (i-1) j (by omega) (by omega)
       · rw[if_neg h2]
         by_cases h3:j=k
         · rw[if_pos h3];omega
         · rw[if_neg h3];exact hr.nab (i-1) (j-1) (by omega) (by omega)
 · intro i j hi hj hne
   rw[ol]at hi hj
   have a1:=bb i
   have a2:=bb (i-1)
   have b1:=bb j
   have b2:=bb (j-1)
   by_cases h1:i<k
   · rw[if_pos h1]
     have:=a1 (by omega)
     by_cases h2:j<k
     · rw[if_pos h2];exact hr.nbb i j (by omega) (by omega) hne
     · rw[if_neg h2]
       by_cases h3:j=k
       · rw[if_pos h3];omega
       · rw[if_neg h3];exact hr.nbb i (j-1) (by omega) (by omega) (by omega)
   · rw[if_neg h1]
     by_cases h4:i=k
     · rw[if_pos h4]
       split
       · have:=b1 (by omega);omega
       · split
         · omega
         · have:=b2 (by omega);omega
     · rw[if_neg h4]
       have:=a2 (by omega)
       by_cases h2:j<k
       · rw[if_pos h2];exact hr.nbb (i-1) j (by omega) (by omega) (by omega)
       · rw[if_neg h2]
         by_cases h3:j=k
         · rw[if_pos h3];omega
         · rw[if_neg h3];exact hr.nbb (i-1) (j-1) (by omega) (by omega) (by omega)
theorem Rp.merge{H:ah}{id:Nat}{es:List D}{fa fb:Nat→Nat}{out:List World}(hr:Rp H id es fa fb out){k:Nat}(hk:k<out.length)(x:World)(ht:(nth out k).tags=x.tags)(hw:x.whr.length=(nth out k).whr.length):
 Rp (H.set (fb k) (.arr 2 false 0 (whs x.whr))) id es fa fb (out.set k x):=by
 have ol:(out.set k x).length=out.length:=List.length_set
 have nk:=hr.nb k hk
 have kl:=lP (hr.hb k hk)
 refine⟨by rw[gz nk];exact hr.arr,by rw[ol];exact hr.len,?_,?_,?_,by rw[ol];exact hr.na,by rw[ol];exact hr.nb,by rw[ol];exact hr.nab,by rw[ol];exact hr.nbb⟩
 · intro j hj
   rw[ol]at hj
   rw[hr.el j hj,qp out k hk]
   by_cases h:j=k
   · rw[if_pos h,h,ht,hw]
   · rw[if_neg h]
 · intro j hj
   rw[ol]at hj
   rw[gz (fun e=>hr.nab j k hj hk e.symm),hr.ha j hj,qp out k hk]
   by_cases h:j=k
   · rw[if_pos h,h,ht]
   · rw[if_neg h]
 · intro j hj
   rw[ol]at hj
   rw[qp out k hk]
   by_cases h:j=k
   · rw[if_pos h,h,pg kl]
   · rw[if_neg h,gz (fun e=>hr.nbb j k hj hk h e.symm)];exact hr.hb j hj
theorem DL(l:List World)(i:Nat)(hi:i<l.length)(hl:l.length≤1000000)(out:List World)(ho:out.length≤999999)(hso:∀x∈out,x.sz)(hsx:(nth l i).sz)(H:ah)(v:D)(hr:Rep H v out):
 ∃v' H',dB false [1,4,5] H.length (exS aS K.dH ⟨[.t (.sl (l.map World.e)),.und,v,I i,.und,.und],H⟩)=some ⟨[.t (.sl (l.map World.e)),.und,v',I (i+1),.und,.und],H'⟩∧Rep H' v' (iE out (nth l i)):=by
 have l2:=NV l i hi out (by omega) hso hsx H v hr
 have kl:=rE out (nth l i)
 have cw:=rz (nth l i) hsx
 rcases hr with⟨rfl,rfl⟩ | ⟨id,es,fa,fb,rfl,h0,hr⟩
 · have k0:cF [] (nth l i)=0:=rfl
   rw[k0]at l2
   have t1:iE [] (nth l i)=[nth l i]:=rfl
   rw[t1]
   generalize hx:nth l i=x at*
   obtain⟨tb,wb⟩:=x
   simp only at cw
   have run:dB false [1,4,5] H.length (exS aS K.dH ⟨[.t (.sl (l.map World.e)),.und,.nil,I i,.und,.und],H⟩)=
    some ⟨[.t (.sl (l.map World.e)),.und,.ref H.length 0 1,I (i+1),.und,.und],H++[.arr 2 false 0 [.agg [.ref (H.length+1) 0 tb.length,.ref (H.length+2) 0 wb.length]],.arr 1 false 0 (ints tb),.arr 2 false 0 (whs wb),.arr 2 false 0 [.agg [.ref (H.length+1) 0 tb.length,.ref (H.length+2) 0 wb.length]]]⟩:=by
    simp(disch:=omega)only[go_sem,K.dH,↓reduceIte,reduceAdd,reduceSub,l2,hx,cw,ir,fU,kB,pj,Nat.add_assoc]
   refine⟨_,_,run,.inr ⟨H.length,_,fun _=>H.length+1,fun _=>H.length+2,rfl,by simp,⟨ir,rfl,?_,?_,?_,?_,?_,?_,?_⟩⟩⟩
   all_goals skip
   · intro j hj;obtain rfl:j=0:=by simpa using hj
     rfl
   · intro j hj;obtain rfl:j=0:=by simpa using hj
     rw[fU];rfl
   · intro j hj;obtain rfl:j=0:=by simpa using hj
     rw[fU];rfl
   · intro j hj;omega
   · intro j hj;omega
   · intro i j hi hj;omega
   · intro i j hi hj hne
     have h1:i=0:=by simpa using hi
     have h2:j=0:=by simpa using hj
     omega
 · have e1:=hr.arr
   have e2:=hr.len
   have e7:=lP e1
   by_cases c:cF out (nth l i)<out.length∧(nth out (cF out (nth l i))).tags=(nth l i).tags
   · obtain⟨ck,ct⟩:=c
     have l3:=NW l i hi out (by omega) hso hsx H id es fa fb hr (cF out (nth l i)) ck
     have s1:=(hso _ (az ck)).1
     have sm:=uY (nth out (cF out (nth l i))).tags (nth l i).tags (by omega)
     have t1:iE out (nth l i)=out.set (cF out (nth l i)) ⟨(nth l i).tags,gn (nth out (cF out (nth l i))).whr (nth l i).whr⟩:=by unfold iE;rw[if_pos ⟨ck,ct⟩]
     rw[t1]
     simp only[ct,decide_true]at sm
     generalize cF out (nth l i)=k at*
     have e3:=hr.el k ck
     have e4:=hr.ha k ck
     have mg:=hr.merge ck ⟨(nth l i).tags,gn (nth out k).whr (nth l i).whr⟩ ct (ib _ _ _)
     refine⟨.ref id 0 out.length,_,?_,.inr ⟨id,es,fa,fb,by rw[List.length_set],by rw[List.length_set];omega,mg⟩⟩
     generalize nth out k=y at*
     obtain⟨ta,wa⟩:=y
     simp only at ct
     subst ct
     generalize hx:nth l i=x at*
     obtain⟨tb,wb⟩:=x
     simp only at s1 sm e3 e4 cw l3 ⊢
     simp(disch:=omega)only[go_sem,K.dH,↓reduceIte,reduceAdd,reduceSub,l2,l3,hx,cw,sm,e1,e2,e3,e4]
   · have t1:iE out (nth l i)=out.take (cF out (nth l i))++[nth l i]++out.drop (cF out (nth l i)):=by unfold iE;rw[if_neg c]
     rw[t1]
     generalize cF out (nth l i)=k at*
     have hs1:bJ 2 (es.take k)=true:=tB fun e he=>hr.size e (List.mem_of_mem_take he)
     have hs2:bJ 2 (es.drop k)=true:=tB fun e he=>hr.size e (List.mem_of_mem_drop he)
     have hs3:(es.drop k).take (out.length-k)=es.drop k:=List.take_of_length_le (by simp[e2])
     have hs4:(es.take k).length=k:=by rw[List.length_take];omega
     have hs5:(es.drop k).length=out.length-k:=by rw[List.length_drop,e2]
     have hs6:k+(1+(out.length-k))=out.length+1:=by omega
     have s2:=hsx.1
     have run:dB false [1,4,5] H.length (exS aS K.dH ⟨[.t (.sl (l.map World.e)),.und,.ref id 0 out.length,I i,.und,.und],H⟩)=
      some ⟨[.t (.sl (l.map World.e)),.und,.ref H.length 0 (out.length+1),I (i+1),.und,.und],H++[.arr 2 false 0 (es.take k++[.agg [.ref (H.length+1) 0 (nth l i).tags.length,.ref (H.length+2) 0 (nth l i).whr.length]]++es.drop k),.arr 1 false 0 (ints (nth l i).tags),.arr 2 false 0 (whs (nth l i).whr),.arr 2 false 0 [.agg [.ref (H.length+1) 0 (nth l i).tags.length,.ref (H.length+2) 0 (nth l i).whr.length]]]⟩:=by
      by_cases ck:k<out.length
      · have s1:=(hso _ (az ck)).1
        have sm:=uY (nth out k).tags (nth l i).tags (by omega)
        have ct:¬(nth out k).tags=(nth l i).tags:=fun h=>c ⟨ck,h⟩
        have e3:=hr.el k ck
        have e4:=hr.ha k ck
        generalize nth out k=y at*
        obtain⟨ta,wa⟩:=y
        generalize hx:nth l i=x at*
        obtain⟨tb,wb⟩:=x
        simp only at s1 s2 sm e3 e4 ct cw
        simp only[ct,decide_false]at sm
        simp(disch:=omega)only[go_sem,K.dH,↓reduceIte,reduceAdd,reduceSub,l2,hx,cw,sm,e1,e2,e3,e4,hs1,hs2,hs3,hs4,hs5,hs6,iA,ir,fU,kB,pj,Nat.add_assoc,Nat.sub_zero]
      · have ek:k=out.length:=by omega
        subst ek
        generalize hx:nth l i=x at*
        obtain⟨tb,wb⟩:=x
        simp only at s2 cw
        simp(disch:=omega)only[go_sem,K.dH,↓reduceIte,reduceAdd,reduceSub,l2,hx,cw,e1,e2,hs1,hs2,hs3,hs4,hs5,hs6,iA,ir,fU,kB,pj,Nat.add_assoc,Nat.sub_zero]
     exact⟨_,_,run,.inr ⟨H.length,_,_,_,by rw[aLv,aLv,List.length_take,List.length_drop,List.length_singleton,Nat.min_eq_left kl];congr 1;omega,by rw[aLv,aLv,List.length_singleton];omega,hr.ins kl (nth l i) _⟩⟩
theorem vk(out:List World)(x:World):(iE out x).length≤out.length+1∧out.length≤(iE out x).length∧1≤(iE out x).length:=by
 have kl:=rE out x
 unfold iE
 split
 · rename_i h
   rw[List.length_set];omega
 · rw[aLv,aLv,List.length_take,List.length_drop,List.length_singleton];omega
theorem zF(l:List World):∀j,(pC l j).length≤j
 | 0=>aLs _
 | j+1=>by
   have:=zF l j
   have:=(vk (pC l j) (nth l j)).1
   simp only[pC];omega
theorem Gi(a b:Wh):(iY a b).1.frm.length≤a.frm.length:=by
 unfold iY
 split
 · simp only[kv];omega
 · simp
theorem CJ(a b:List Wh)(n:Nat)(h:∀w∈a,w.frm.length≤n):∀p,p≤a.length→∀w∈jU a b p,w.frm.length≤n
 | 0,_,w,hw=>h w hw
 | p+1,hp,w,hw=>by
   simp only[jU]at hw
   rcases aLk hw with hw | rfl
   · exact CJ a b n h p (by omega) w hw
   · exact Nat.le_trans (Gi _ _) (h _ (az (by omega)))
theorem IN{out:List World}{x:World}(ho:∀y∈out,y.sz)(hx:x.sz):∀y∈iE out x,y.sz:=by
 intro y hy
 unfold iE at hy
 split at hy
 · rename_i h
   rcases aLk hy with hy | rfl
   · exact ho y hy
   · obtain⟨s1,s2,s3⟩:=ho _ (az h.1)
     refine⟨hx.1,?_,?_⟩
     · show(jU _ _ _).length≤_
       rw[ib];exact s2
     · exact CJ _ _ _ s3 _ (Nat.min_le_left _ _)
 · rcases List.mem_append.1 hy with hy | hy
   · rcases List.mem_append.1 hy with hy | hy
     · exact ho y (List.mem_of_mem_take hy)
     · rw[List.mem_singleton.1 hy];exact hx
   · exact ho y (List.mem_of_mem_drop hy)
theorem CK{l:List World}(hl:∀x∈l,x.sz):∀j,j≤l.length→∀y∈pC l j,y.sz
 | 0,_,y,hy=>by simp[pC]at hy
 | j+1,h,y,hy=>IN (CK hl j (by omega)) (hl _ (az (by omega))) y hy
theorem Rp.frz{H:ah}{id:Nat}{es:List D}{fa fb:Nat→Nat}{out:List World}(hr:Rp H id es fa fb out):
 bK (frz H 8) es=some (out.map World.e)∧∀i∈es.flatMap (ef H 8),i≠id:=by
 have hl:=hr.len
 have key:∀(j:Nat) (hj:j<out.length),Go.Ev.frz H 8 (.agg [.ref (fa j) 0 (nth out j).tags.length,.ref (fb j) 0 (nth out j).whr.length])=some (nth out j).e∧
  ef H 8 (.agg [.ref (fa j) 0 (nth out j).tags.length,.ref (fb j) 0 (nth out j).whr.length])=[fa j,fb j]:=by
  intro j hj
  have h1:=hr.ha j hj
  have h2:=hr.hb j hj
  simp(disch:=omega)only[go_sem,h1,h2,ints,whs,↓reduceIte]
 constructor
 · have:∀(es:List D) (ts:List T),es.length=ts.length→(∀(j:Nat) e t,es[j]?=some e→ts[j]?=some t→Go.Ev.frz H 8 e=some t)→bK (Go.Ev.frz H 8) es=some ts:=by
    intro es
    induction es with
    | nil=>intro ts h _;cases ts with
      | nil=>rfl
      | cons=>simp at h
    | cons e es ih=>
      intro ts h hh
      cases ts with
      | nil=>simp at h
      | cons t ts=>
        have h1:=hh 0 e t rfl rfl
        have h2:=ih ts (by simpa using h) fun j e t he ht=>hh (j+1) e t (by simpa using he) (by simpa using ht)
        simp only[bK,h1,aLq,h2,aLw]
   refine this es _ (by rw[List.length_map,hl]) fun j e t he ht=>?_
   have hj:j<out.length:=by rw[← hl];exact(aLe.1 he).1
   rw[hr.el j hj]at he
   rw[fT _ hj]at ht
   cases he;cases ht
   exact(key j hj).1
 · intro i hi
   obtain⟨e,he,hi⟩:=List.mem_flatMap.1 hi
   obtain⟨j,hj⟩:=aLf.1 he
   have hjl:j<out.length:=by rw[← hl];exact(aLe.1 hj).1
   rw[hr.el j hjl]at hj
   cases hj
   rw[(key j hjl).2]at hi
   simp only[List.mem_cons,List.not_mem_nil,or_false]at hi
   rcases hi with rfl | rfl
   · exact hr.na j hjl
   · exact hr.nb j hjl
theorem NX(l:List World)(h0:1≤l.length)(hl:l.length≤100000)(hs:∀x∈l,x.sz):
 aS 1 N.gD [.t (.sl (l.map World.e))] []=some (.ref 0 0 (nF l).length,[.arr 2 false 0 (((nF l).map World.e).map .t)]):=by
 refine aE K.ou rfl ?_
 have loop:∀a b c:D,∃q,exS aS K.rm ⟨[.t (.sl (l.map World.e)),a,.nil,I 0,b,c],[]⟩=some q∧∃v H,q=(.exit 0,⟨[.t (.sl (l.map World.e)),.und,v,I l.length,.und,.und],H⟩)∧Rep H v (nF l):=by
  intro a b c
  refine IM (fun j st=>∃v H,st=⟨[.t (.sl (l.map World.e)),.und,v,I j,.und,.und],H⟩∧Rep H v (pC l j)) l.length _ ⟨.nil,[],rfl,.inl ⟨rfl,rfl⟩⟩ ?_ ?_
  · rintro j st hj ⟨v,H,rfl,hr⟩
    have ln:=zF l j
    obtain⟨v',H',h1,h2⟩:=DL l j hj (by omega) (pC l j) (by omega) (CK hs j (by omega)) (hs _ (az hj)) H v hr
    exact⟨_,h1,v',H',rfl,h2⟩
  · rintro st ⟨v,H,rfl,hr⟩
    refine⟨(.exit 0,⟨[.t (.sl (l.map World.e)),.und,v,I l.length,.und,.und],H⟩),?_,by simp,v,H,rfl,hr⟩
    simp(disch:=omega)only[go_sem,K.dH,↓reduceIte,reduceAdd,reduceSub]
 obtain⟨q,hq,v,H,rfl,hr⟩:=loop .nil .und .und
 have nz:1≤(nF l).length:=by
  unfold nF
  cases hn:l.length with
  | zero=>omega
  | succ n=>exact(vk _ _).2.2
 rcases hr with⟨rfl,he⟩ | ⟨id,es,fa,fb,rfl,h0,hr⟩
 · rw[he]at nz;simp at nz
 · obtain⟨f1,f2⟩:=hr.frz
   have fin:=Bk H id 2 (nF l).length es _ hr.arr hr.len.symm f1 f2
   simp(disch:=omega)only[go_sem,K.gD,↓reduceIte,reduceAdd,reduceSub,hq,fin]
@[go_sem] theorem Ku {α β γ : Type} [Dat α] (f : β → γ) (g : α → β) {l : List α} {i j : Nat} {x : α} (h : j < l.length) : (((l.set i x).map g).map f)[j]? = some (f (g (nth (l.set i x) j))) := Co f g (by rw [List.length_set]; exact h)
def DM(l:List Int)(i j:Nat):List Int:=(l.set i (nth l j)).set j (nth l i)
def x5(i j:Nat)(t:Int)(x:World):World:=⟨DM x.tags i j,(x.whr.set i (ed (nth x.whr i) t).1).set j (ed (nth x.whr j) t).1⟩
def tK(i j:Nat)(t:Int)(x:World)(out:List World):List World:=if zD (nth x.whr i) (nth x.whr j) t=true then out++[x5 i j t x]else out
def gp(i j:Nat)(t:Int)(ws:List World):Nat→List World
 | 0=>ws
 | k+1=>tK i j t (nth ws k) (gp i j t ws k)
def iF(m:bV)(b:Bel)(i j t:Int):Bel×Int:=
 if yH m b=false then(b,6)else if i<0∨((nth b.bD 0).tags.length:Int)≤i∨j<0∨((nth b.bD 0).tags.length:Int)≤j∨i=j then(b,19)
 else if ¬inT t then(b,8)else if 24<(nF (gp i.toNat j.toNat t b.bD b.bD.length)).length then(b,44)else(⟨nF (gp i.toNat j.toNat t b.bD b.bD.length)⟩,0)
theorem Gj(i j:Nat)(t:Int)(x:World)(out:List World):out.length≤(tK i j t x out).length∧(tK i j t x out).length≤out.length+1:=by
 unfold tK;split<;>(try rw[aLv,List.length_singleton])<;>omega
theorem pn(i j:Nat)(t:Int)(ws:List World):∀k,ws.length≤(gp i j t ws k).length∧(gp i j t ws k).length≤ws.length+k
 | 0=>⟨aLs _,aLs _⟩
 | k+1=>by
   have h1:=pn i j t ws k
   have h2:=Gj i j t (nth ws k) (gp i j t ws k)
   simp only[gp];omega
abbrev exH(m:bV)(ws out:List World):ah:=[.box (au m),.box [.t (.sl (ws.map World.e))],.box [.nil],.arr 2 false 0 ((out.map World.e).map .t)]
theorem DN(m:bV)(ws:List World)(hw:ws.length≤100000)(i j:Nat)(hij:i≠j)(t:Int)(k:Nat)(hk:k<ws.length)(hs:(nth ws k).sz)
 (i1:i<(nth ws k).tags.length) (j1:j<(nth ws k).tags.length) (hl:(nth ws k).whr.length=(nth ws k).tags.length) (out:List World) (ho:out.length≤1000000):
 dB true [0,1,5,8,9,12] 4 (exS aS K.fp ⟨[.und,.und,I i,I j,I t,.und,.bp 1 0,.bp 2 0,.und,.und,.ref 3 0 out.length,I k,.und],exH m ws out⟩)=
  some ⟨[.und,.und,I i,I j,I t,.und,.bp 1 0,.bp 2 0,.und,.und,.ref 3 0 (tK i j t (nth ws k) out).length,I (k+1),.und],exH m ws (tK i j t (nth ws k) out)⟩:=by
 have c1:=rz (nth ws k) hs
 have mt:=NR (nth (nth ws k).whr i) (nth (nth ws k).whr j) t (hs.2.2 _ (az (by omega)))
 have r1:=Cw (nth (nth ws k).whr i) t (hs.2.2 _ (az (by omega)))
 have r2:=Cw (nth (nth ws k).whr j) t (hs.2.2 _ (az (by omega)))
 unfold tK x5 DM
 have n1:∀w,nth ((nth ws k).whr.set i w) j=nth (nth ws k).whr j:=fun w=>by rw[qp _ _ (by omega),if_neg (fun e=>hij e.symm)]
 generalize hx:nth ws k=x at*
 obtain⟨tags,whr⟩:=x
 obtain⟨s1,s2,s3⟩:=hs
 simp only at*
 generalize hwi:nth whr i=wi at*
 generalize hwj:nth whr j=wj at*
 generalize ed wi t=ri at*
 obtain⟨⟨t1,f1⟩,e1⟩:=ri
 generalize ed wj t=rj at*
 obtain⟨⟨t2,f2⟩,e2⟩:=rj
 obtain⟨ti,fi⟩:=wi
 obtain⟨tj,fj⟩:=wj
 simp only at*
 cases hm:zD ⟨ti,fi⟩ ⟨tj,fj⟩ t with
 | true=>
   rw[hm]at mt
   simp(disch:=omega)only[go_sem,K.fp,↓reduceIte,exH,hx,hwi,hwj,n1,c1,mt,r1,r2,reduceAdd,reduceSub]
 | false=>
   rw[hm]at mt
   simp(disch:=omega)only[go_sem,K.fp,↓reduceIte,exH,hx,hwi,hwj,n1,c1,mt,r1,r2,reduceAdd,reduceSub,aLt]
theorem xe(w:Wh)(t:Int):(ed w t).1.frm=w.frm:=by unfold ed;split<;>rfl
theorem IP{i j:Nat}{t:Int}{x:World}(h:x.sz)(hi:i<x.whr.length)(hj:j<x.whr.length):(x5 i j t x).sz:=by
 obtain⟨s1,s2,s3⟩:=h
 refine⟨by simpa [x5,DM]using s1,by simpa [x5]using s2,fun w hw=>?_⟩
 simp only[x5]at hw
 rcases aLk hw with hw | rfl
 · rcases aLk hw with hw | rfl
   · exact s3 w hw
   · rw[xe];exact s3 _ (az hi)
 · rw[xe];exact s3 _ (az hj)
theorem vl{ws:List World}(h:∀x∈ws,x.sz){i j:Nat}{t:Int}(hi:∀k,k<ws.length→i<(nth ws k).whr.length)(hj:∀k,k<ws.length→j<(nth ws k).whr.length):∀k,k≤ws.length→∀x∈gp i j t ws k,x.sz
 | 0,_,x,hx=>h x hx
 | k+1,hk,x,hx=>by
   simp only[gp,tK]at hx
   split at hx
   · rcases List.mem_append.1 hx with hx | hx
     · exact vl h hi hj k (by omega) x hx
     · rw[List.mem_singleton.1 hx];exact IP (h _ (az (by omega))) (hi k (by omega)) (hj k (by omega))
   · exact vl h hi hj k (by omega) x hx
theorem DO{m:bV}(h:m.ok)(b:Bel)(hs:b.sz)(i j t:Int):
 aS 0 N.bh [.t m.e,.t b.e,I i,I j,I t] []=some (.tup [.t (iF m b i j t).1.e,I (iF m b i j t).2],[]):=by
 refine aE K.ka rfl ?_
 have cb:=DD b hs
 have cb1:=Bi b hs
 have vb:=MR h b hs
 unfold iF
 cases hb:yH m b with
 | false=>
   rw[hb]at vb
   obtain⟨ws⟩:=b
   simp(disch:=omega)only[go_sem,K.bh,↓reduceIte,cb,vb,reduceAdd,reduceSub]
 | true=>
   rw[hb]at vb
   obtain⟨w1,w2,f1,f2,w5⟩:=mE hb
   obtain⟨ws⟩:=b
   obtain⟨s1,s2⟩:=hs
   simp only at s1 s2 w1 w2 w5 f1 f2 cb cb1 vb ⊢
   have g0:(ws.map World.e)[0]?=some (nth ws 0).e:=fT _ (by omega)
   have wl:∀k,k<ws.length→(nth ws k).tags.length=(nth ws 0).tags.length∧(nth ws k).whr.length=(nth ws 0).tags.length:=fun k hk=>by
    obtain⟨q1,q2, -⟩:=jT (w5 k hk)
    exact⟨q1,q2⟩
   generalize hx:nth ws 0=x at*
   obtain⟨first,whr⟩:=x
   simp only at f1 f2 wl g0 ⊢
   rw[if_neg (by simp)]
   by_cases c1:i<0
   · rw[if_pos (by omega)]
     simp(disch:=omega)only[go_sem,K.bh,↓reduceIte,cb,vb,hx,g0,c1,reduceAdd,reduceSub]
   · by_cases c2:(first.length:Int)≤i
     · rw[if_pos (by omega)]
       simp(disch:=omega)only[go_sem,K.bh,↓reduceIte,cb,vb,hx,g0,c1,c2,reduceAdd,reduceSub]
     · by_cases c3:j<0
       · rw[if_pos (by omega)]
         simp(disch:=omega)only[go_sem,K.bh,↓reduceIte,cb,vb,hx,g0,c1,c2,c3,reduceAdd,reduceSub]
       · by_cases c4:(first.length:Int)≤j
         · rw[if_pos (by omega)]
           simp(disch:=omega)only[go_sem,K.bh,↓reduceIte,cb,vb,hx,g0,c1,c2,c3,c4,reduceAdd,reduceSub]
         · by_cases c5:i=j
           · rw[if_pos (by omega)]
             simp(disch:=omega)only[go_sem,K.bh,↓reduceIte,cb,vb,hx,g0,c1,c2,c3,c4,c5,reduceAdd,reduceSub]
           · rw[if_neg (by omega)]
             by_cases ct:inT t
             · have ct':=ct
               unfold inT at ct'
               rw[if_neg (fun h=>h ct)]
               obtain⟨i',rfl⟩:=Int.eq_ofNat_of_zero_le (show 0≤i by omega)
               obtain⟨j',rfl⟩:=Int.eq_ofNat_of_zero_le (show 0≤j by omega)
               simp only[Int.toNat_natCast]
               have ln:=pn i' j' t ws
               have loop:∀a b c d e f:D,exS aS K.mq ⟨[a,b,I i',I j',I t,c,.bp 1 0,.bp 2 0,d,e,.ref 3 0 ws.length,I 0,f],exH m ws ws⟩=
                some (.exit 0,⟨[.und,.und,I i',I j',I t,.und,.bp 1 0,.bp 2 0,.und,.und,.ref 3 0 (gp i' j' t ws ws.length).length,I ws.length,.und],exH m ws (gp i' j' t ws ws.length)⟩):=by
                intro a b c d e f
                refine eK (fun k=>⟨[.und,.und,I i',I j',I t,.und,.bp 1 0,.bp 2 0,.und,.und,.ref 3 0 (gp i' j' t ws k).length,I k,.und],exH m ws (gp i' j' t ws k)⟩) ws.length rfl ?_ ?_ (by simp)
                · intro k hk
                  obtain⟨q1,q2⟩:=wl k hk
                  have:=ln k
                  exact DN m ws (by omega) i' j' (by omega) t k hk (s2 _ (az hk)) (by omega) (by omega) (by omega) _ (by omega)
                · have:=ln ws.length
                  generalize gp i' j' t ws ws.length=L at*
                  simp(disch:=omega)only[go_sem,K.fp,↓reduceIte,exH,reduceAdd,reduceSub]
               have ln:=ln ws.length
               have sz:=vl (t:=t) s2 (i:=i') (j:=j') (fun k hk=>by obtain⟨q1,q2⟩:=wl k hk;omega) (fun k hk=>by obtain⟨q1,q2⟩:=wl k hk;omega) ws.length (aLs _)
               have ty:=NX (gp i' j' t ws ws.length) (by omega) (by omega) sz
               generalize gp i' j' t ws ws.length=L at*
               generalize nF L=Z at*
               simp only[exH]at loop
               by_cases c6:24<Z.length
               · simp(disch:=omega)only[go_sem,K.bh,↓reduceIte,cb,cb1,vb,hx,g0,c1,c2,c3,c4,c5,c6,loop,ty,reduceAdd,reduceSub]
               · simp(disch:=omega)only[go_sem,K.bh,↓reduceIte,cb,cb1,vb,hx,g0,c1,c2,c3,c4,c5,c6,loop,ty,reduceAdd,reduceSub]
             · rw[if_pos ct]
               unfold inT at ct
               by_cases c6:t<0
               · simp(disch:=omega)only[go_sem,K.bh,↓reduceIte,cb,vb,hx,g0,c1,c2,c3,c4,c5,c6,reduceAdd,reduceSub]
               · simp(disch:=omega)only[go_sem,K.bh,↓reduceIte,cb,vb,hx,g0,c1,c2,c3,c4,c5,c6,reduceAdd,reduceSub]
def Tu:Nat→List Int
 | 0=>[]
 | k+1=>Tu k++[3+(k:Int)*2]
def di.CL(d:di)(n:Int):Nat→List Int×di
 | 0=>([],d)
 | k+1=>((d.CL n k).1++[((d.CL n k).2.next n).1],((d.CL n k).2.next n).2)
structure BSt where
 b:Bel
 t:Int
 d:di
def di.NY(m:bV)(n:Int)(s:BSt):BSt:=
 let a:=s.d.next 60
 let c:=a.2.next 3
 if c.1=0 then
  let i:=c.2.next n
  let j:=i.2.next n
  let r:=iF m s.b i.1 j.1 (s.t+a.1)
  ⟨if r.2=0 then r.1 else s.b,s.t+a.1,j.2⟩
 else if c.1=1 then
  let g:=c.2.next n
  let l:=g.2.Dx m.av.length
  let e:=l.2.next 9
  let r:=Tp m s.b (3+2*g.1) l.1 (s.t+a.1) (s.t+a.1+e.1)
  ⟨if r.2=0 then r.1 else s.b,s.t+a.1,e.2⟩
 else
  let g:=c.2.next n
  let l:=g.2.Dx m.av.length
  let e:=l.2.next 40
  let r:=Tt m s.b (3+2*g.1) l.1 (s.t+a.1) (s.t+a.1+50) e.1
  ⟨if r.2=0 then r.1 else s.b,s.t+a.1,e.2⟩
def di.Z8(m:bV)(n:Int)(s:BSt):Nat→BSt
 | 0=>s
 | k+1=>di.NY m n (di.Z8 m n s k)
def di.YV(d:di):Nat:=(1+(d.next 3).1).toNat
def di.V3(d:di)(m:bV):List Int×di:=(d.next 3).2.CL m.av.length d.YV
def di.aaY(d:di)(m:bV):BSt:=⟨(kx m (Tu d.YV) (d.V3 m).1 ((d.V3 m).2.next 100).1).1,100,(((d.V3 m).2.next 100).2.next 5).2⟩
def di.aaZ(d:di)(m:bV):Nat:=(((d.V3 m).2.next 100).2.next 5).1.toNat
def di.Z9(d:di)(m:bV):BSt:=di.Z8 m d.YV (d.aaY m) (d.aaZ m)
def di.aaa(d:di)(m:bV):Bel×di:=((d.Z9 m).b,(d.Z9 m).d)
structure WOk(m:bV)(N:Nat)(x:World):Prop where
 tg:x.tags.length=N
 wh:x.whr.length=N
 fr:∀w∈x.whr,w.frm.length=m.av.length
 ti:∀w∈x.whr,inT w.time
structure BOk(m:bV)(N:Nat)(b:Bel):Prop where
 w1:1≤b.bD.length
 w2:b.bD.length≤24
 n1:1≤N
 n2:N≤12
 ws:∀x∈b.bD,WOk m N x
theorem WOk.sz{m:bV}{N:Nat}{x:World}(h:WOk m N x)(hm:m.ok)(hn:N≤12):x.sz:=by
 have np:=hm.np
 obtain⟨t1,t2,t3, -⟩:=h
 exact⟨by omega,by omega,fun w hw=>by rw[t3 w hw];omega⟩
theorem BOk.sz{m:bV}{N:Nat}{b:Bel}(h:BOk m N b)(hm:m.ok):b.sz:=
 ⟨by have:=h.w2;omega,fun x hx=>(h.ws x hx).sz hm h.n2⟩
def di.spread(d:di)(m:bV)(fl:List Spn):Wh×di:=
 let p:=d.next m.av.length
 let t:=p.2.next 200
 let s:=S0 m fl [p.1] t.1
 let o:=t.2.one 2
 if o.1=true then
  let f:=o.2.YM m
  let a:=f.2.next 100
  let r:=MO m fl m f.1 s.1 (s.1.time+a.1)
  if r.2=0 then(r.1,a.2)else(s.1,a.2)
 else(s.1,o.2)
structure Mch where
 kind:Int
 num:Int
 pl:List Int
instance : Dat Mch := ⟨⟨0, 0, []⟩⟩
abbrev Mch.e(x:Mch):T:= .agg [tI x.kind,tI x.num,tL x.pl]
@[go_sem] theorem Tv (l : List Mch) : lF 3 (l.map Mch.e) = true := by cases l <;> rfl
theorem po{n:Nat}{p:Nat→Bool}{x:Int}:x∈kI n p↔∃k:Nat,x=k∧k<n∧p k=true:=by
 unfold kI
 simp only[List.mem_map,List.mem_filter,aLu]
 constructor
 · rintro ⟨k,⟨h1,h2⟩,rfl⟩;exact⟨k,rfl,h1,h2⟩
 · rintro ⟨k,rfl,h1,h2⟩;exact⟨k,⟨h1,h2⟩,rfl⟩
theorem IQ{α:Type} [Dat α]{l:List α}{p:α→Bool}:((List.range l.length).find? fun j=>p (nth l j)).isSome=l.any p:=by
 rw[List.isSome_find?,Bool.eq_iff_iff,List.any_eq_true,List.any_eq_true]
 constructor
 · rintro ⟨j,hj,h⟩
   exact⟨_,az (aLu.1 hj),h⟩
 · rintro ⟨x,hx,h⟩
   obtain⟨j,hj⟩:=aLf.1 hx
   exact⟨j,aLu.2 (aLe.1 hj).1,by rw[bN hj];exact h⟩
theorem zG(s:Wh)(t:Int):(ql s t).length≤s.frm.length:=wX _ _
end Go.Ev
namespace Go.Ev
open Go
variable [Lib] [cH] [b7] [gI] [gy] [jy] [fG] [fH] [iC] [gg] [fg] [eb]
theorem x6(l:List Wh)(hl:l.length≤4294967296)(f:Nat)(bs:List (List T))(p:Wh→Bool)(h:∀x,x∈l→aS 0 f (.t x.e::fZ bs.length) (aW bs)=some (B (p x),aW bs)):
 aS 0 N.ay [.t (.sl (l.map Wh.e)),.fn f (fZ bs.length)] (aW bs)=
 some (I (match (List.range l.length).find? (fun j=>p (nth l j))with | some j=>(j:Int) | none=> -1),aW bs):=by
 refine aE K.bA rfl ?_
 have loop:∀a b:D,exS aS K.cC ⟨[.t (.sl (l.map Wh.e)),.fn f (fZ bs.length),a,b,I l.length,I 0],aW bs⟩=
  some (match (List.range l.length).find? (fun j=>p (nth l j))with
   | some j=>(.ret,⟨[.t (.sl (l.map Wh.e)),.fn f (fZ bs.length),I j,I j,I l.length,I j],aW bs⟩)
   | none=>(.exit 0,⟨[.t (.sl (l.map Wh.e)),.fn f (fZ bs.length),.und,.und,I l.length,I l.length],aW bs⟩)):=by
  intro a b
  refine de (fun j=>⟨[.t (.sl (l.map Wh.e)),.fn f (fZ bs.length),.und,.und,I l.length,I j],aW bs⟩) l.length (fun j=>p (nth l j)) _ _ rfl ?_ ?_ ?_ (by simp)
  · intro j hj hp
    have hc:=pe (h _ (az hj)) rfl
    simp(disch:=omega)only[go_sem,K.aX,↓reduceIte,hc,hp]
  · intro j hj hp
    have hc:=pe (h _ (az hj)) rfl
    simp(disch:=omega)only[go_sem,K.aX,↓reduceIte,hp,hc]
    simp
  · simp(disch:=omega)only[go_sem,K.aX,↓reduceIte]
 simp(disch:=omega)only[go_sem,K.ay,↓reduceIte,loop]
 cases hf:(List.range l.length).find? (fun j=>p (nth l j))with
 | some j=>simp(disch:=omega)only[go_sem,↓reduceIte]
 | none=>simp(disch:=omega)only[go_sem,↓reduceIte]
theorem tM(l:List Wh)(hl:l.length≤4294967296)(f:Nat)(bs:List (List T))(p:Wh→Bool)(h:∀x,x∈l→aS 0 f (.t x.e::fZ bs.length) (aW bs)=some (B (p x),aW bs)):
 aS 0 N.ai [.t (.sl (l.map Wh.e)),.fn f (fZ bs.length)] (aW bs)=some (B (l.any p),aW bs):=by
 refine aE K.br rfl ?_
 have h:=x6 l hl f bs p h
 have hc:=wW aS bs f _ 0 (.sl (l.map Wh.e)) h rfl
 have e:=IQ (l:=l) (p:=p)
 cases hf:(List.range l.length).find? (fun j=>p (nth l j))with
 | some j=>rw[hf]at e hc;simp(disch:=omega)only[go_sem,K.ai,↓reduceIte,←e,hc]
 | none=>rw[hf]at e hc;simp(disch:=omega)only[go_sem,K.ai,↓reduceIte,←e,hc,Option.isSome_none]
theorem vn{l:List Int}:eM l=true↔l.Nodup∧∀x∈l,1≤x∧x≤65535:=by
 constructor
 · intro h
   refine⟨jz h,fun x hx=>?_⟩
   simp only[eM,aLx,aLu,kK,decide_eq_true_eq]at h
   obtain⟨j,hj⟩:=aLf.1 hx
   have:=h j (aLe.1 hj).1
   rw[bN hj]at this
   exact⟨this.1,this.2.1⟩
 · rintro ⟨h1,h2⟩
   simp only[eM,aLx,aLu,kK,decide_eq_true_eq]
   intro j hj
   obtain⟨a,b⟩:=h2 _ (az hj)
   refine⟨a,b,Decidable.byContradiction fun c=>?_⟩
   obtain⟨d,e⟩:=DC (l:=l.take j) (x:=nth l j) (by omega)
   have z:0≤hX (l.take j) (nth l j):=by omega
   generalize hX (l.take j) (nth l j)=k at*
   rw[List.length_take]at d
   have k1:k.toNat<j:=by omega
   have e1:(l.take j)[k.toNat]?=l[k.toNat]?:=List.getElem?_take_of_lt k1
   have e2:l[k.toNat]?=some l[k.toNat]:=aLc (by omega)
   rw[bN (e1.trans e2),←bN e2]at e
   have n2:=(List.getElem?_inj (by omega:k.toNat<l.length) h1).1 (show l[k.toNat]?=l[j]? by rw[gq (by omega),gq hj,e])
   omega
theorem IS{l:List Int}{lo hi:Int}:P7 l lo hi=true↔l.Pairwise (· < ·)∧∀x∈l,lo≤x∧x≤hi:=by
 have e:P7 l lo hi=true↔∀j,j<l.length→lo≤nth l j∧nth l j≤hi∧(0<j→nth l (j-1)<nth l j):=by
  simp only[P7,Bool.not_eq_true',List.any_eq_false,aLu,Hg,Bool.not_eq_true]
  constructor
  · intro h j hj
    have:=h j hj
    exact Decidable.byContradiction fun c=>this (decide_eq_false c)
  · intro h j hj c
    exact(of_decide_eq_false c) (h j hj)
 rw[e]
 constructor
 · intro h
   refine⟨?_,fun x hx=>?_⟩
   · have key:∀d i,i+d+1<l.length→nth l i<nth l (i+d+1):=by
      intro d
      induction d with
      | zero=>intro i hi;have:=(h (i+0+1) hi).2.2 (by omega);simpa using this
      | succ d ih=>
        intro i hi
        have a:=ih i (by omega)
        have b:=(h (i+(d+1)+1) hi).2.2 (by omega)
        rw[show i+(d+1)+1-1=i+d+1 by omega]at b
        omega
     rw[List.pairwise_iff_getElem]
     intro i j hi hj hij
     have:=key (j-i-1) i (by omega)
     rw[show i+(j-i-1)+1=j by omega,bN (aLc hi),bN (aLc hj)]at this
     exact this
   · obtain⟨j,hj⟩:=aLf.1 hx
     have:=h j (aLe.1 hj).1
     rw[bN hj]at this
     exact⟨this.1,this.2.1⟩
 · rintro ⟨h1,h2⟩ j hj
   refine⟨(h2 _ (az hj)).1,(h2 _ (az hj)).2,fun h0=>?_⟩
   have:=(List.pairwise_iff_getElem.1 h1) (j-1) j (by omega) hj (by omega)
   rwa [← bN (aLc (by omega:j-1<l.length)),←bN (aLc hj)]at this
theorem DP(l:List Int):P7 (fE l) 1 65535=eM l:=by
 rw[Bool.eq_iff_iff,IS,vn]
 have p:=je l
 have u:=rC l
 constructor
 · rintro ⟨h1,h2⟩
   refine⟨p.nodup_iff.1 (h1.imp fun h=>by omega),fun x hx=>h2 x (p.mem_iff.2 hx)⟩
 · rintro ⟨h1,h2⟩
   have nd:(fE l).Nodup:=p.nodup_iff.2 h1
   refine⟨?_,fun x hx=>h2 x (p.mem_iff.1 hx)⟩
   have:=List.Pairwise.and u nd
   exact this.imp fun h=>by omega
theorem Gk(l:List Int)(hl:l.length≤1000000):aS 0 N.dQ [.t (tL l)] []=some (B (eM l),[]):=by
 refine aE K.lW rfl ?_
 have v:=vg l
 have s:=vi l hl
 have r:=FU (fE l) 1 65535 (by rw[gA];omega)
 rw[DP]at r
 simp(disch:=omega)only[go_sem,K.dQ,↓reduceIte,v,s,r,reduceAdd,reduceSub]
end Go.Ev
namespace Go.Ev
open Go
variable [Lib] [cH] [b7] [fG] [fH] [iC] [gg]
def smE(into:Option (List Int)):ah:=match into with
 | none=>[]
 | some s=>[.box [.t (tL s)]]
def smD(into:Option (List Int)):D:=match into with
 | none=> .fn N.dt []
 | some _=> .fn N.b9 [.bp 5 0]
def smK(into:Option (List Int)):Nat:=match into with
 | none=>5
 | some _=>6
@[go_sem] theorem aab (H : ah) (len j : Nat) (ts : List T) (h : j < len) : RF H len 1 false (.t (.agg ts)) j = (ts[j]?).map fun t => (.t t, H) := by
 have h0:len≠0:=by omega
 unfold RF wB
 rw[if_neg h0,if_pos h]
 unfold qA cut
 simp only[D.isAgg,D.cells,T.cells,if_true,Nat.mul_one,List.length_map]
 by_cases hj:j<ts.length
 · rw[if_pos (by omega),aLc hj]
   have e:((ts.map D.t).drop j).take 1=[D.t ts[j]]:=by
    rw[List.drop_eq_getElem_cons (by simpa using hj)];simp
   rw[e];rfl
 · rw[if_neg (by omega),aLm (by omega)];rfl
def Gl(into:Option (List Int))(l:List Int)(q:Nat)(x:Int):Bool:=decide (x≤2147483648∧x<nth l q)&&FK into q
theorem NZ(into:Option (List Int))(hi:∀s,into=some s→s.length≤64)(l:List Int)(hl:l.length≤64)(hb:bnd l)(p:Int)(q:Nat)(hq:q<l.length)(n t:Int)(ch:Bool):
 aS 0 N.aZ [I p,I q,I n,.bp 0 0,.bp 1 0,.bp 2 0,.bp 3 0] (.box [I t]:: .box [.ref 4 0 l.length]:: .box [smD into]:: .box [B ch]::Ax l::smE into)=
  some (.tup [],if Gl into l q (max n t)=true then .box [I t]:: .box [.ref 4 0 l.length]:: .box [smD into]:: .box [B true]::Ax (l.set q (max n t))::smE into
   else .box [I t]:: .box [.ref 4 0 l.length]:: .box [smD into]:: .box [B ch]::Ax l::smE into):=by
 refine aE K.jx rfl ?_
 have ln:(l.set q (max n t)).length=l.length:=List.length_set ..
 have a:=NB q
 have b:=hb _ (az hq)
 unfold Gl
 cases into with
 | none=>
   simp only[smE,smD,FK,Bool.and_true,decide_eq_true_eq]
   by_cases c1:max n t≤2147483648
   · by_cases c2:max n t<nth l q
     · simp(disch:=omega)only[go_sem,K.aZ,↓reduceIte,a,c1,c2,and_self,reduceAdd,reduceSub]
     · simp(disch:=omega)only[go_sem,K.aZ,↓reduceIte,c1,c2,and_false,reduceAdd,reduceSub]
   · simp(disch:=omega)only[go_sem,K.aZ,↓reduceIte,c1,false_and,reduceAdd,reduceSub]
 | some s=>
   have a2:=IK q s (by have:=hi s rfl;omega)
   simp only[smE,smD,FK]
   by_cases c1:max n t≤2147483648
   · by_cases c2:max n t<nth l q
     · by_cases c3:(q:Int)∈s
       · simp only[c3,decide_true]at a2
         simp(disch:=omega)only[go_sem,K.aZ,↓reduceIte,a2,c1,c2,c3,and_self,decide_true,Bool.and_true,reduceAdd,reduceSub]
       · simp only[c3,decide_false]at a2
         simp(disch:=omega)only[go_sem,K.aZ,↓reduceIte,a2,c1,c2,c3,and_self,decide_false,Bool.and_false,reduceAdd,reduceSub]
     · simp(disch:=omega)only[go_sem,K.aZ,↓reduceIte,c1,c2,and_false,decide_false,Bool.false_and,reduceAdd,reduceSub]
   · simp(disch:=omega)only[go_sem,K.aZ,↓reduceIte,c1,false_and,decide_false,Bool.false_and,reduceAdd,reduceSub]
theorem IT{m:bV}(h:m.ok)(t:Int)(into:Option (List Int)){k:Nat}(hk:k<m.roads.length)(back:Bool)(l:List Int):
 ec m t into k back l=if 0≤fF m k back 6 9 12∧nth l ((nth m.roads k).src back).toNat<1099511627776∧Gl into l ((nth m.roads k).dst back).toNat (max (nth l ((nth m.roads k).src back).toNat+fF m k back 6 9 12) t)=true
  then(l.set ((nth m.roads k).dst back).toNat (max (nth l ((nth m.roads k).src back).toNat+fF m k back 6 9 12) t),true)else(l,false):=by
 have r2:=Road.wY (h.rs _ (az hk)) back
 unfold ec Gl kJ ko
 have e:(((nth m.roads k).dst back).toNat:Int)=(nth m.roads k).dst back:=by omega
 rw[e]
 generalize (nth m.roads k).dst back=d at*
 generalize ((nth m.roads k).src back).toNat=s at*
 generalize fF m k back 6 9 12=v at*
 rw[Int.max_comm t]
 generalize max (nth l s+v) t=x at*
 cases FK into d with
 | false=>simp
 | true=>
   simp only[↓reduceIte,Bool.and_true,aLr,decide_eq_true_eq]
   by_cases c:((0≤v∧nth l s<1099511627776)∧x≤2147483648)∧x<nth l d.toNat
   · obtain⟨⟨⟨c1,c2⟩,c3⟩,c4⟩:=c
     simp[c1,c2,c3,c4]
   · have c':¬(0≤v∧nth l s<1099511627776∧x≤2147483648∧x<nth l d.toNat):=fun h=>c ⟨⟨⟨h.1,h.2.1⟩,h.2.2.1⟩,h.2.2.2⟩
     rw[if_neg c,if_neg c']
     simp only[Prod.mk.injEq,true_and]
     have:(decide (0≤v)&&decide (nth l s<1099511627776)&&decide (x≤2147483648)&&decide (x<nth l d.toNat))=false:=by
      rw[Bool.eq_false_iff];intro h;simp only[aLr,decide_eq_true_eq]at h;exact c h
     exact this
abbrev Gm:D:= .fn N.aZ [.bp 1 0,.bp 2 0,.bp 3 0,.bp 4 0]
abbrev vo(into:Option (List Int))(t:Int)(s:List Int×Bool):ah:=Ax s.1:: .box [I t]:: .box [.ref 0 0 s.1.length]:: .box [smD into]:: .box [B s.2]::smE into
abbrev sE(x:Road):List D:=[I x.frm,I x.to,I x.len,I x.area,B x.walk,B x.closed,I x.restL,I x.restH,I x.liftL,I x.liftH]
theorem xf{m:bV}(h:m.ok)(t:Int)(ht:0≤t)(ht2:t≤1000000000000)(into:Option (List Int))(hi:∀s,into=some s→s.length≤64)(l:List Int)(hl:l.length=m.av.length)(hb:bnd l)(ch:Bool){k:Nat}(hk:k<m.roads.length)(back:Bool):
 dB true [0,6,7,8,9] (vo into t (l,ch)++[Obj.box (au m),Obj.box (sE (nth m.roads k))]).length (exS aS K.dG ⟨[.und,.ref 0 0 l.length,Gm,.bp (smK into) 0,I k,.bp (smK into+1) 0,.und,.und,.und,.und,.t (.sl (m.roads.map Road.e)),I m.roads.length,I k,.t (.agg [.bool false,.bool true]),I (if back then 1 else 0:Nat)],vo into t (l,ch)++[.box (au m),.box (sE (nth m.roads k))]⟩)=
  some ⟨[.und,.ref 0 0 l.length,Gm,.bp (smK into) 0,I k,.bp (smK into+1) 0,.und,.und,.und,.und,.t (.sl (m.roads.map Road.e)),I m.roads.length,I k,.t (.agg [.bool false,.bool true]),I ((if back then 1 else 0:Nat)+1)],vo into t ((ec m t into k back l).1,ch||(ec m t into k back l).2)++[.box (au m),.box (sE (nth m.roads k))]⟩:=by
 have np:=h.np
 have nr:=h.nr
 have ok:=h.rs _ (az hk)
 have r1:=Road.qL ok back
 have r2:=Road.wY ok back
 have wt:=IJ h k hk back
 have wl:=xV h k hk back
 have b1:=hb _ (az (l:=l) (j:=((nth m.roads k).src back).toNat) (by omega))
 have lo:=NZ into hi l (by omega) hb ((nth m.roads k).src back) ((nth m.roads k).dst back).toNat (by omega) (nth l ((nth m.roads k).src back).toNat+fF m k back 6 9 12) t ch
 have e:(((nth m.roads k).dst back).toNat:Int)=(nth m.roads k).dst back:=by omega
 rw[e]at lo
 rw[IT h t into hk back l]
 have ls:∀x,(l.set ((nth m.roads k).dst back).toNat x).length=l.length:=fun x=>List.length_set ..
 generalize fF m k back 6 9 12=v at*
 generalize hx:nth m.roads k=x at*
 clear hx ok
 obtain⟨frm,to,len,area,walk,closed,rl,rh,ll,lh⟩:=x
 obtain⟨av,roads⟩:=m
 simp only at hl np nr hk
 have h01:(1:Int)=0+1:=rfl
 by_cases c1:0≤v
 · by_cases c2:nth l ((Road.mk frm to len area walk closed rl rh ll lh).src back).toNat<1099511627776
   · cases c3:Gl into l ((Road.mk frm to len area walk closed rl rh ll lh).dst back).toNat (max (nth l ((Road.mk frm to len area walk closed rl rh ll lh).src back).toNat+v) t)<;>
     cases back<;>simp only[Road.src,Road.dst,aLt,↓reduceIte]at* <;>simp only[c1,c2,c3,and_true,true_and,and_self,and_false,aLt,↓reduceIte]at lo ⊢ <;>
     cases into<;>simp only[smE,smD,smK,au,sE,vo,List.cons_append,List.nil_append]at* <;>
     simp(disch:=omega)only[go_sem,K.dG,↓reduceIte,wt,lo,c1,c2,ls,Bool.or_true,Bool.or_false,reduceAdd,reduceSub]
   · cases back<;>simp only[Road.src,Road.dst,aLt,↓reduceIte]at* <;>simp only[c1,c2,false_and,and_false,↓reduceIte]<;>
     cases into<;>simp only[smE,smD,smK,au,sE,vo,List.cons_append,List.nil_append]at* <;>
     simp(disch:=omega)only[go_sem,K.dG,↓reduceIte,wt,c1,c2,Bool.or_false,reduceAdd,reduceSub]
 · cases back<;>simp only[Road.src,Road.dst,aLt,↓reduceIte]at* <;>simp only[c1,false_and,↓reduceIte]<;>
   cases into<;>simp only[smE,smD,smK,au,sE,vo,List.cons_append,List.nil_append]at* <;>
   simp(disch:=omega)only[go_sem,K.dG,↓reduceIte,wt,c1,Bool.or_false,reduceAdd,reduceSub]
theorem IU{m:bV}(h:m.ok)(t:Int)(ht:0≤t)(ht2:t≤1000000000000)(into:Option (List Int))(hi:∀s,into=some s→s.length≤64)(l:List Int)(hl:l.length=m.av.length)(hb:bnd l)(ch:Bool){k:Nat}(hk:k<m.roads.length):
 dB true [0,4,5,6,7,8,9,13,14] (vo into t (l,ch)++[Obj.box (au m)]).length (exS aS K.gr ⟨[.und,.ref 0 0 l.length,Gm,.bp (smK into) 0,.und,.und,.und,.und,.und,.und,.t (.sl (m.roads.map Road.e)),I m.roads.length,I k,.und,.und],vo into t (l,ch)++[.box (au m)]⟩)=
  some ⟨[.und,.ref 0 0 (qj m t into k (l,ch)).1.length,Gm,.bp (smK into) 0,.und,.und,.und,.und,.und,.und,.t (.sl (m.roads.map Road.e)),I m.roads.length,I (k+1),.und,.und],vo into t (qj m t into k (l,ch))++[.box (au m)]⟩:=by
 have nr:=h.nr
 have g:(m.roads.map Road.e)[k]?=some (nth m.roads k).e:=fT _ hk
 have h1:=xf h t ht ht2 into hi l hl hb ch hk false
 have l1:(ec m t into k false l).1.length=l.length:=mw ..
 have l2:(ec m t into k true (ec m t into k false l).1).1.length=l.length:=by rw[mw,l1]
 have h2:=xf h t ht ht2 into hi (ec m t into k false l).1 (by omega) (oC h hl hb hk false) (ch||(ec m t into k false l).2) hk true
 have st:qj m t into k (l,ch)=((ec m t into k true (ec m t into k false l).1).1,ch||(ec m t into k false l).2||(ec m t into k true (ec m t into k false l).1).2):=rfl
 rw[st]
 simp only[l1,l2,aLt,↓reduceIte]at h1 h2 ⊢
 have inner:∀z0 z6 z7 z8 z9:D,exS aS K.lz ⟨[z0,.ref 0 0 l.length,Gm,.bp (smK into) 0,I k,.bp (smK into+1) 0,z6,z7,z8,z9,.t (.sl (m.roads.map Road.e)),I m.roads.length,I k,.t (.agg [.bool false,.bool true]),I 0],vo into t (l,ch)++[.box (au m),.box (sE (nth m.roads k))]⟩=
  some (.exit 2,⟨[.und,.ref 0 0 l.length,Gm,.bp (smK into) 0,I k,.bp (smK into+1) 0,.und,.und,.und,.und,.t (.sl (m.roads.map Road.e)),I m.roads.length,I k,.t (.agg [.bool false,.bool true]),I 2],
   vo into t ((ec m t into k true (ec m t into k false l).1).1,ch||(ec m t into k false l).2||(ec m t into k true (ec m t into k false l).1).2)++[.box (au m),.box (sE (nth m.roads k))]⟩):=by
  intro z0 z6 z7 z8 z9
  refine eK (fun j=>⟨[.und,.ref 0 0 l.length,Gm,.bp (smK into) 0,I k,.bp (smK into+1) 0,.und,.und,.und,.und,.t (.sl (m.roads.map Road.e)),I m.roads.length,I k,.t (.agg [.bool false,.bool true]),I j],
   vo into t (match j with | 0=>(l,ch) | 1=>((ec m t into k false l).1,ch||(ec m t into k false l).2) | _=>((ec m t into k true (ec m t into k false l).1).1,ch||(ec m t into k false l).2||(ec m t into k true (ec m t into k false l).1).2))++[.box (au m),.box (sE (nth m.roads k))]⟩) 2 rfl ?_ ?_ (by simp)
  · intro j hj
    have hj2:j=0∨j=1:=by omega
    rcases hj2 with rfl | rfl
    · exact h1
    · exact h2
  · clear h1 h2
    cases into<;>simp only[smE,smD,smK,au,sE,vo,List.cons_append,List.nil_append]<;>
    simp(disch:=omega)only[go_sem,K.dG,↓reduceIte,reduceAdd,reduceSub]
 clear h1 h2 st
 generalize ec m t into k true (ec m t into k false l).1=b2 at*
 generalize ec m t into k false l=b1 at*
 generalize hx:nth m.roads k=x at*
 clear hx
 obtain⟨frm,to,len,area,walk,closed,rl,rh,ll,lh⟩:=x
 obtain⟨av,roads⟩:=m
 simp only at nr hk
 cases into<;>simp only[smE,smD,smK,au,sE,vo,List.cons_append,List.nil_append]at* <;>
 simp(disch:=omega)only[go_sem,K.gr,↓reduceIte,g,inner,l2,reduceAdd,reduceSub]
theorem Bt{m:bV}(h:m.ok)(t:Int)(ht:0≤t)(ht2:t≤1000000000000)(into:Option (List Int))(hi:∀s,into=some s→s.length≤64)(l:List Int)(hl:l.length=m.av.length)(hb:bnd l)(ch:Bool):
 aS 0 N.cN [.t m.e,.ref 0 0 l.length,Gm] (vo into t (l,ch))=some (.tup [],vo into t ((cV m t into l).1,ch||(cV m t into l).2)):=by
 refine aE K.jP rfl ?_
 have nr:=h.nr
 have ls:=fun k=>df m t into l k
 have loop:∀z0 z4 z5 z6 z7 z8 z9 z13 z14:D,exS aS K.lA ⟨[z0,.ref 0 0 l.length,Gm,.bp (smK into) 0,z4,z5,z6,z7,z8,z9,.t (.sl (m.roads.map Road.e)),I m.roads.length,I 0,z13,z14],vo into t (l,ch)++[.box (au m)]⟩=
  some (.exit 0,⟨[.und,.ref 0 0 l.length,Gm,.bp (smK into) 0,.und,.und,.und,.und,.und,.und,.t (.sl (m.roads.map Road.e)),I m.roads.length,I m.roads.length,.und,.und],vo into t ((cV m t into l).1,ch||(cV m t into l).2)++[.box (au m)]⟩):=by
  intro z0 z4 z5 z6 z7 z8 z9 z13 z14
  refine eK (fun j=>⟨[.und,.ref 0 0 l.length,Gm,.bp (smK into) 0,.und,.und,.und,.und,.und,.und,.t (.sl (m.roads.map Road.e)),I m.roads.length,I j,.und,.und],vo into t ((dU m t into l j).1,ch||(dU m t into l j).2)++[.box (au m)]⟩) m.roads.length ?_ ?_ ?_ (by simp)
  · simp only[dU,Bool.or_false];rfl
  · intro j hj
    have r:=IU h t ht ht2 into hi (dU m t into l j).1 (by rw[ls,hl]) (gH h hl hb j (by omega)) (ch||(dU m t into l j).2) hj
    have e:qj m t into j ((dU m t into l j).1,ch||(dU m t into l j).2)=((dU m t into l (j+1)).1,ch||(dU m t into l (j+1)).2):=by
     simp only[dU,qj,Bool.or_assoc]
    rw[e]at r
    simp only[ls]at r
    exact r
  · clear ls
    cases into<;>simp only[smE,smD,smK,au,sE,vo,List.cons_append,List.nil_append]<;>
    simp(disch:=omega)only[go_sem,K.gr,↓reduceIte,cV,reduceAdd,reduceSub]
 have l2:(cV m t into l).1.length=l.length:=by unfold cV;rw[ls]
 clear ls
 generalize cV m t into l=r at*
 obtain⟨r1,r2⟩:=r
 obtain⟨av,roads⟩:=m
 simp only at nr hl l2
 cases into<;>simp only[smE,smD,smK,au,sE,vo,List.cons_append,List.nil_append]at* <;>
 simp(disch:=omega)only[go_sem,K.cN,↓reduceIte,loop,l2,reduceAdd,reduceSub]
section
variable (a0 a1 a2 a3 a4 a5 x y : Obj) (ds : ah)
theorem Kv:(a0::a1::a2::a3::a4::(ds++[x]))[ds.length+5]?=some x:=by simp
theorem Tw:(a0::a1::a2::a3::a4::(ds++[x])).set (ds.length+5) y=a0::a1::a2::a3::a4::(ds++[y]):=by simp
theorem Kw:(a0::a1::a2::a3::a4::a5::(ds++[x]))[ds.length+6]?=some x:=by simp
theorem Tx:(a0::a1::a2::a3::a4::a5::(ds++[x])).set (ds.length+6) y=a0::a1::a2::a3::a4::a5::(ds++[y]):=by simp
theorem Kx(u:Obj):(ds++[u]++[x])[ds.length+1]?=some x:=by simp
theorem N0(u:Obj):(a0::a1::a2::a3::a4::(ds++[u]++[x])).set (ds.length+1+1+1+1+1+1) y=a0::a1::a2::a3::a4::(ds++[u]++[y]):=by simp
theorem N1(u:Obj):(a0::a1::a2::a3::a4::a5::(ds++[u]++[x])).set (ds.length+1+1+1+1+1+1+1) y=a0::a1::a2::a3::a4::a5::(ds++[u]++[y]):=by simp
theorem Ty:(ds++[x]).length=ds.length+1:=by simp
end
@[go_sem] theorem V4 (n : Nat) : eqB n n = true := by
 induction n with
 | zero=>rfl
 | succ n ih=>exact ih
abbrev Ky(m:bV)(into:Option (List Int))(t:Int)(l:List Int)(ds:ah)(c:Bool):ah:=match into with
 | none=> .box (au m):: .box [I t]:: .box [.fn N.dt []]::Ax l:: .box [.ref 3 0 l.length]::(ds++[.box [B c]])
 | some s=> .box [.t (tL s)]:: .box (au m):: .box [I t]:: .box [.fn N.b9 [.bp 0 0]]::Ax l:: .box [.ref 4 0 l.length]::(ds++[.box [B c]])
abbrev Bu(m:bV)(into:Option (List Int))(t:Int)(l:List Int)(ds:ah)(c:Bool):St:=match into with
 | none=>⟨[.und,.und,.und,.und,.bp 0 0,.bp 1 0,.bp 2 0,.und,.bp 4 0,.bp (ds.length+5) 0,.und],Ky m none t l ds c⟩
 | some s=>⟨[.und,.und,.und,.und,.bp 1 0,.bp 2 0,.bp 3 0,.und,.bp 5 0,.bp (ds.length+6) 0,.und],Ky m (some s) t l ds c⟩
theorem Gn{m:bV}(h:m.ok)(t:Int)(ht:0≤t)(ht2:t≤1000000000000)(into:Option (List Int))(hi:∀s,into=some s→s.length≤64)(l:List Int)(hl:l.length=m.av.length)(hb:bnd l)(ds:ah)(k:Nat):
 dB false [0,1,2,3,7,10] k (exS aS K.cL (Bu m into t l ds true))=some (Bu m into t (cV m t into l).1 (ds++[.box [B (cV m t into l).2]]) (cV m t into l).2):=by
 have nr:=h.nr
 have ar:=Bt h t ht ht2 into hi l hl hb false
 have l2:(cV m t into l).1.length=l.length:=by unfold cV;rw[df]
 cases into with
 | none=>
   generalize cV m t none l=r at*
   obtain⟨r1,r2⟩:=r
   obtain⟨av,roads⟩:=m
   simp only[Ky,Bu,vo,smE,smD,au,Bool.false_or]at*
   simp(disch:=omega)only[go_sem,K.cL,↓reduceIte,ar,Kv,Tw,Ty,l2,Kx,N0,reduceAdd,reduceSub]
 | some s=>
   generalize cV m t (some s) l=r at*
   obtain⟨r1,r2⟩:=r
   obtain⟨av,roads⟩:=m
   simp only[Ky,Bu,vo,smE,smD,au,Bool.false_or]at*
   simp(disch:=omega)only[go_sem,K.cL,↓reduceIte,ar,Kw,Tx,Ty,l2,Kx,N1,reduceAdd,reduceSub]
theorem IV(m:bV)(into:Option (List Int))(t:Int)(l:List Int)(ds:ah):exS aS K.cL (Bu m into t l ds false)=some (.exit 0,Bu m into t l ds false):=by
 obtain⟨av,roads⟩:=m
 cases into with
 | none=>
   simp only[Ky,Bu,au]
   simp(disch:=omega)only[go_sem,K.cL,↓reduceIte,Kv,reduceAdd,reduceSub]
 | some s=>
   simp only[Ky,Bu,au]
   simp(disch:=omega)only[go_sem,K.cL,↓reduceIte,Kw,reduceAdd,reduceSub]
theorem x7{m:bV}(h:m.ok)(t:Int)(ht:0≤t)(ht2:t≤1000000000000)(into:Option (List Int))(hi:∀s,into=some s→s.length≤64):∀(n:Nat) (l:List Int) (ds:ah),ua l<n→l.length=m.av.length→bnd l→
 ∃ds',kV false [0,1,2,3,7,10] (exS aS K.cL) (Bu m into t l ds true)=some (.exit 0,Bu m into t (iz (cV m t into) n l) ds' false)
 | 0,l,ds,hn,_,_=>absurd hn (by omega)
 | n+1,l,ds,hn,hl,hb=>by
   have r:=Gn h t ht ht2 into hi l hl hb ds (Bu m into t l ds true).H.length
   have s:=(my h (t:=t) (into:=into) hl hb m.roads.length (aLs _)).1
   change (cV m t into l).2=true→ua (cV m t into l).1<ua l at s
   unfold iz
   cases hc:(cV m t into l).2 with
   | true=>
     rw[hc]at r
     obtain⟨ds',h2⟩:=x7 h t ht ht2 into hi n (cV m t into l).1 _ (by have:=s hc;omega) (by unfold cV;rw[df,hl]) (gH h hl hb _ (aLs _))
     exact⟨ds',cM r h2⟩
   | false=>
     rw[hc]at r
     exact⟨_,cM r (bE (IV m into t _ _) (by simp))⟩
theorem DQ{m:bV}(h:m.ok)(t:Int)(ht:0≤t)(ht2:t≤1000000000000)(l:List Int)(hl:l.length=m.av.length)(hb:bnd l):
 aS 0 N.bR [.t m.e,.t (tL l),I t,.fn N.dt []] []=some (.t (tL (fD m t none l)),[])∧
 ∀s:List Int,s.length≤64→aS 1 N.bR [.t m.e,.t (tL l),I t,.fn N.b9 [.bp 0 0]] [.box [.t (tL s)]]=some (.ref 1 0 l.length,[.box [.t (tL s)],Ax (fD m t (some s) l)]):=by
 have np:=h.np
 have c1:=ve l (by omega)
 have ln:∀into,(fD m t into l).length=l.length:=by
  intro into
  have key:∀n l,(iz (cV m t into) n l).length=l.length:=by
   intro n
   induction n with
   | zero=>intro l;rfl
   | succ n ih=>
     intro l
     unfold iz
     split
     · rw[ih];unfold cV;rw[df]
     · unfold cV;rw[df]
  exact key _ _
 refine⟨aE K.iS rfl ?_,fun s hs=>aE K.iS rfl ?_⟩
 · obtain⟨ds,lp⟩:=x7 h t ht ht2 none (by simp) (ua l+1) l [] (Nat.lt_succ_self _) hl hb
   have ln:=ln none
   have lp:∀z0 z1 z2 z3 z7 z10:D,exS aS K.jN ⟨[z0,z1,z2,z3,.bp 0 0,.bp 1 0,.bp 2 0,z7,.bp 4 0,.bp 5 0,z10],[.box (au m),.box [I t],.box [.fn N.dt []],Ax l,.box [.ref 3 0 l.length],.box [B true]]⟩=some (.exit 0,Bu m none t (fD m t none l) ds false):=fun z0 z1 z2 z3 z7 z10=>lp
   generalize fD m t none l=r at*
   obtain⟨av,roads⟩:=m
   simp only[Ky,Bu,au]at*
   simp(disch:=omega)only[go_sem,K.bR,↓reduceIte,c1,lp,ln,reduceAdd,reduceSub]
 · obtain⟨ds,lp⟩:=x7 h t ht ht2 (some s) (by intro s' h;cases h;exact hs) (ua l+1) l [] (Nat.lt_succ_self _) hl hb
   have l2:=ln (some s)
   clear ln
   have lp:∀z0 z1 z2 z3 z7 z10:D,exS aS K.jN ⟨[z0,z1,z2,z3,.bp 1 0,.bp 2 0,.bp 3 0,z7,.bp 5 0,.bp 6 0,z10],[.box [.t (tL s)],.box (au m),.box [I t],.box [.fn N.b9 [.bp 0 0]],Ax l,.box [.ref 4 0 l.length],.box [B true]]⟩=some (.exit 0,Bu m (some s) t (fD m t (some s) l) ds false):=fun z0 z1 z2 z3 z7 z10=>lp
   generalize fD m t (some s) l=r at*
   obtain⟨av,roads⟩:=m
   simp only[Ky,Bu,au]at*
   simp(disch:=omega)only[go_sem,K.bR,↓reduceIte,c1,lp,l2,reduceAdd,reduceSub]
end Go.Ev
namespace Go.Ev
open Go
variable [Lib] [cH] [b7] [gI] [gy] [fG] [fH] [iC] [gg]
theorem DR(x:Int):aS 0 N.bH [I x] []=some (B (!decide (plT x)),[]):=by
 refine aE K.jQ rfl ?_
 have i:=Be x 0 2147483648
 unfold plT inT
 by_cases c:x=1099511627776
 · subst c
   simp(disch:=omega)only[go_sem,K.bH,↓reduceIte,reduceAdd,reduceSub]
 · by_cases c2:0≤x∧x≤2147483648
   · simp only[c2,and_self,decide_true]at i
     simp(disch:=omega)only[go_sem,K.bH,↓reduceIte,i,c,c2,false_or,and_self,decide_true,reduceAdd,reduceSub]
   · simp only[c2,decide_false]at i
     simp(disch:=omega)only[go_sem,K.bH,↓reduceIte,i,c,c2,false_or,decide_false,reduceAdd,reduceSub]
theorem Gp(m:bV)(hm:m.av.length≤1000000)(w:Wh)(hl:w.frm.length≤1000000):aS 0 N.cR [.t m.e,.t w.e] []=some (B (oD w m.av.length),[]):=by
 refine aE K.kM rfl ?_
 have i:=Be w.time 0 2147483648
 have cf:aS 0 N.aG [.t (tL w.frm),.fn N.bH []] []=some (B (w.frm.any fun x=> !decide (plT x)),[]):=oB w.frm (by omega) N.bH [] (fun x=> !decide (plT x)) (fun x _=>DR x)
 have e:oD w m.av.length=(decide ((w.frm.length:Int)=m.av.length∧inT w.time)&& !(w.frm.any fun x=> !decide (plT x))):=by
  unfold oD
  rw[MX,MW w.frm (fun x=> !decide (plT x))]
 rw[e]
 unfold inT
 generalize (w.frm.any fun x=> !decide (plT x))=r at*
 obtain⟨av,roads⟩:=m
 obtain⟨time,frm⟩:=w
 simp only at*
 clear e
 by_cases c1:(frm.length:Int)=av.length
 · by_cases c2:0≤time∧time≤2147483648
   · simp only[c2,and_self,decide_true]at i
     cases r<;>simp(disch:=omega)only[go_sem,K.cR,↓reduceIte,i,cf,c1,c2,and_self,decide_true,Bool.true_and,reduceAdd,reduceSub]
   · simp only[c2,decide_false]at i
     simp(disch:=omega)only[go_sem,K.cR,↓reduceIte,i,cf,c1,c2,and_false,decide_false,Bool.false_and,reduceAdd,reduceSub]
 · simp(disch:=omega)only[go_sem,K.cR,↓reduceIte,c1,false_and,decide_false,Bool.false_and,reduceAdd,reduceSub]
theorem Gq{m:bV}(h:m.ok)(w:Wh)(hl:w.frm.length≤1000000):aS 0 N.dw [.t m.e,.t w.e] []=some (B (eY m w),[]):=by
 refine aE K.lT rfl ?_
 have np:=h.np
 have v:=oK h
 have s:=Gp m (by omega) w hl
 unfold eY
 cases hp:oD w m.av.length with
 | false=>
   rw[hp]at s
   obtain⟨av,roads⟩:=m
   obtain⟨time,frm⟩:=w
   simp only at*
   simp(disch:=omega)only[go_sem,K.dw,↓reduceIte,v,s,Bool.false_and,reduceAdd,reduceSub]
 | true=>
   rw[hp]at s
   obtain⟨p1,p2,p3⟩:=qk hp
   have hb:bnd w.frm:=fun x hx=>xX (p3 x hx)
   have lo:=(DQ h w.time (by unfold inT at p2;omega) (by unfold inT at p2;omega) w.frm (by omega) hb).1
   have ll:=sB h w.time p2 none (by simp) (l:=w.frm) (by omega) hb
   have eq:=uc (fD m w.time none w.frm) w.frm (by omega) (by omega)
   generalize fD m w.time none w.frm=c at*
   obtain⟨av,roads⟩:=m
   obtain⟨time,frm⟩:=w
   simp only at*
   clear hb p3
   simp(disch:=omega)only[go_sem,K.dw,↓reduceIte,v,s,lo,eq,Bool.true_and,reduceAdd,reduceSub]
theorem zH(w:Wh)(t:Int)(hl:w.frm.length≤1000000):aS 0 N.dy [.t w.e,I t] []=some (.tup [.t (ed w t).1.e,I (ed w t).2],[]):=by
 refine aE K.lU rfl ?_
 have c:=Gb w.frm hl
 unfold ed
 obtain⟨time,frm⟩:=w
 simp only at*
 by_cases c1:t<time
 · rw[if_pos (.inl c1)]
   simp(disch:=omega)only[go_sem,K.dy,↓reduceIte,c1,reduceAdd,reduceSub]
 · by_cases c2:2147483648<t
   · rw[if_pos (.inr c2)]
     simp(disch:=omega)only[go_sem,K.dy,↓reduceIte,c1,c2,reduceAdd,reduceSub]
   · rw[if_neg (by omega)]
     simp(disch:=omega)only[go_sem,K.dy,↓reduceIte,c1,c2,c,reduceAdd,reduceSub]
theorem Gr(a b:Wh)(ha:a.frm.length≤1000000):aS 0 N.fV [.t a.e,.t b.e] []=some (B (decide (a.time=b.time∧a.frm=b.frm)),[]):=by
 refine aE K.oL rfl ?_
 have s:=uY a.frm b.frm (by omega)
 obtain⟨t1,f1⟩:=a
 obtain⟨t2,f2⟩:=b
 simp only at*
 by_cases c:t1=t2
 · simp(disch:=omega)only[go_sem,K.fV,↓reduceIte,s,c,true_and,reduceAdd,reduceSub]
 · simp(disch:=omega)only[go_sem,K.fV,↓reduceIte,s,c,false_and,decide_false,reduceAdd,reduceSub]
end Go.Ev
namespace Go.Ev
open Go
variable [Lib] [cH] [b7] [gI] [gy] [jy] [fG] [fH] [iC] [gg] [fg] [eb]
theorem oO{n j:Nat}{p:Nat→Bool}(h1:j<n)(h2:p j=true)(h3:∀k,k<j→p k=false):(List.range n).find? p=some j:=by
 cases hf:(List.range n).find? p with
 | none=>exact absurd h2 (by simpa using List.find?_eq_none.1 hf j (aLu.2 h1))
 | some k=>
   obtain⟨k1,k2⟩:=uW hf
   have:k≤j:=by
    rcases Nat.lt_or_ge j k with c | c
    · rw[List.find?_range_eq_some]at hf
      exact absurd h2 (by simpa using hf.2.2 j c)
    · exact c
   rcases Nat.lt_or_ge k j with c | c
   · rw[h3 k c]at k2;cases k2
   · rw[show k=j by omega]
theorem zI{n:Nat}{p:Nat→Bool}(h:∀k,k<n→p k=false):(List.range n).find? p=none:=List.find?_eq_none.2 fun x hx=>by rw[h x (aLu.1 hx)];simp
theorem zJ(a b:List Int):decide (vR a b<0)=oE a b:=by
 unfold vR oE
 cases hf:(List.range (min a.length b.length)).find? (fun j=>decide (nth a j≠nth b j))with
 | some j=>
   rw[List.find?_range_eq_some]at hf
   obtain⟨h2,h1,h3⟩:=hf
   have h1:=aLu.1 h1
   have e:(List.range a.length).find? (CH a b)=some j:=oO (by omega) (by simp only[CH,h2,Bool.or_true]) (fun k hk=>by
    have:=h3 k hk
    simp only[CH,Bool.or_eq_false_iff,decide_eq_false_iff_not]
    exact⟨by omega,by simpa using this⟩)
   have h2:nth a j≠nth b j:=by simpa using h2
   rw[e]
   simp only[if_neg (by omega:¬b.length≤j)]
   rw[decide_eq_decide]
   unfold Gf
   split
   · omega
   · split<;>omega
 | none=>
   have h3:∀k,k<min a.length b.length→nth a k=nth b k:=fun k hk=>by
    have:=List.find?_eq_none.1 hf k (aLu.2 hk)
    simpa using this
   by_cases c:a.length≤b.length
   · have e:(List.range a.length).find? (CH a b)=none:=zI fun k hk=>by
      simp only[CH,Bool.or_eq_false_iff,decide_eq_false_iff_not,Decidable.not_not]
      exact⟨by omega,h3 k (by omega)⟩
     rw[e]
     simp only[decide_eq_decide]
     split<;>omega
   · have e:(List.range a.length).find? (CH a b)=some b.length:=oO (by omega) (by simp[CH]) (fun k hk=>by
      simp only[CH,Bool.or_eq_false_iff,decide_eq_false_iff_not,Decidable.not_not]
      exact⟨by omega,h3 k (by omega)⟩)
     rw[e]
     simp only[aLs,if_true,decide_eq_decide]
     omega
def pwB(m:bV)(ws:List World)(first:List Int)(i:Nat):Bool:=
 decide (1≤(nth ws i).tags.length∧(nth ws i).tags.length≤12)&&decide ((nth ws i).whr.length=(nth ws i).tags.length)&&eM (nth ws i).tags&&decide (fE (nth ws i).tags=fE first)&&(decide (i=0)||oE (nth ws (i-1)).tags (nth ws i).tags)&& !((nth ws i).whr.any fun x=> !eY m x)
def IW(m:bV)(b:Bel):Bool:=decide (1≤b.bD.length∧b.bD.length≤24)&&(List.range b.bD.length).all (pwB m b.bD (nth b.bD 0).tags)
theorem tC{a b:List Int}:fE a=fE b↔a.Perm b:=by
 constructor
 · intro h
   exact(je a).symm.trans (h▸je b)
 · intro h
   exact YS (rC a) (rC b) ((je a).trans (h.trans (je b).symm))
theorem pX{a b:List Int}(ha:a.Nodup)(hb:b.Nodup)(hl:a.length=b.length)(hs:∀x∈a,x∈b):a.Perm b:=by
 have key:∀y∈b,y∈a:=fun y hy=>Decidable.byContradiction fun hn=>by
  have:=rD ha (l':=b.erase y) (fun x hx=>(List.mem_erase_of_ne (fun e=>hn (by rw[← e];exact hx))).2 (hs x hx))
  rw[List.length_erase_of_mem hy]at this
  have:=List.length_pos_of_mem hy
  omega
 exact(List.perm_ext_iff_of_nodup ha hb).2 fun x=>⟨hs x,key x⟩
theorem IX(m:bV)(b:Bel):IW m b=yH m b:=by
 obtain⟨ws⟩:=b
 rw[Bool.eq_iff_iff]
 constructor
 · intro h
   simp only[IW,aLr,decide_eq_true_eq,aLx,aLu,pwB,Bool.or_eq_true,Bool.not_eq_true',List.any_eq_false,Bool.not_eq_false']at h
   obtain⟨⟨h1,h2⟩,h⟩:=h
   have h0:=h 0 (by omega)
   simp only[yH,aLr,decide_eq_true_eq,aLx,aLu,mB,Bool.or_eq_true,Er]
   refine⟨⟨⟨h1,h2⟩,h0.1.1.1.1.1⟩,fun i hi=>?_⟩
   obtain⟨⟨⟨⟨⟨a1,a2⟩,a3⟩,a4⟩,a5⟩,a6⟩:=h i hi
   have pm:=tC.1 a4
   refine⟨⟨⟨⟨pm.length_eq,by rw[a2,pm.length_eq]⟩,a3⟩,a5⟩,fun k hk=>⟨?_,?_⟩⟩
   · exact nE.2 (pm.mem_iff.1 (az hk))
   · simpa using a6 _ (az (l:=(nth ws i).whr) (j:=k) (by omega))
 · intro h
   obtain⟨h1,h2,h3,h4,h5⟩:=mE h
   simp only at h1 h2 h3 h4 h5
   have p0:=(jT (h5 0 (by omega))).2.2.1
   simp only[IW,aLr,decide_eq_true_eq,aLx,aLu,pwB,Bool.or_eq_true,Bool.not_eq_true',List.any_eq_false,Bool.not_eq_false']
   refine⟨⟨h1,h2⟩,fun i hi=>?_⟩
   obtain⟨w1,w2,w3,w4⟩:=jT (h5 i hi)
   have ls:=h5 i hi
   simp only[mB,aLr,Bool.or_eq_true,decide_eq_true_eq]at ls
   refine⟨⟨⟨⟨⟨by omega,by omega⟩,w3⟩,?_⟩,ls.1.2⟩,fun x hx=>?_⟩
   · refine tC.2 (pX (jz w3) (jz p0) w1 fun x hx=>?_)
     obtain⟨j,hj⟩:=aLf.1 hx
     have:=(w4 j (aLe.1 hj).1).1
     rwa [bN hj]at this
   · obtain⟨j,hj⟩:=aLf.1 hx
     have:=(w4 j (by rw[w1,←w2];exact(aLe.1 hj).1)).2
     rw[bN hj]at this
     simpa using this
theorem Bv{m:bV}(h:m.ok)(x:Wh)(hx:x.frm.length≤1000000):aS 0 N.cT [.t x.e,.bp 0 0] [.box (au m)]=some (B (!eY m x),[.box (au m)]):=by
 refine aE K.kO rfl ?_
 have v:=Gq h x hx
 obtain⟨av,roads⟩:=m
 obtain⟨time,frm⟩:=x
 simp only at*
 simp(disch:=omega)only[go_sem,K.cT,↓reduceIte,v,reduceAdd,reduceSub]
abbrev swS(m:bV)(ws:List World)(first:List Int)(i:Nat):St:=
 ⟨[.und,.und,.bp 0 0,.bp 1 0,.und,.t (tL (fE first)),.und,.und,.t (.sl (ws.map World.e)),I ws.length,I i],[.box (au m),.box [.t (.sl (ws.map World.e))],.box [.t (tL first)]]⟩
theorem Gs{m:bV}(h:m.ok)(ws:List World)(first:List Int)(hf:first.length≤1000000)(hs:∀x∈ws,x.sz)(i:Nat)(hi:i<ws.length)(hl:ws.length≤1000000):
 (pwB m ws first i=true→dB true [0,1,4,6,7] 3 (exS aS K.bI (swS m ws first i))=some (swS m ws first (i+1)))∧
 (pwB m ws first i=false→∃q,exS aS K.bI (swS m ws first i)=some q∧q.1= .ret∧q.2.vs[4]?=some (B false)):=by
 simp only[swS]
 have sz:=hs _ (az hi)
 have ex:(ws.map World.e)[i]?=some (nth ws i).e:=fT _ hi
 unfold pwB
 have ey:0<i→(ws.map World.e)[i-1]?=some (nth ws (i-1)).e∧(nth ws (i-1)).tags.length≤1000000:=fun h0=>⟨fT _ (by omega),(hs _ (az (by omega))).1⟩
 generalize nth ws (i-1)=y at*
 generalize nth ws i=x at*
 obtain⟨tags,whr⟩:=x
 obtain⟨ptags,pwhr⟩:=y
 obtain⟨s1,s2,s3⟩:=sz
 simp only at s1 s2 s3 ey ⊢
 have li:=Be tags.length 1 12
 have tg:=Gk tags s1
 have va:=vg tags
 have so:=vi tags s1
 have eq:=uc (fE tags) (fE first) (by rw[gA];omega) (by rw[gA];omega)
 have cf:=tM whr (by omega) N.cT [[.sl (m.av.map Place.e),.sl (m.roads.map Road.e)]] (fun x=> !eY m x) (fun x hx=>Bv h x (s3 x hx))
 have cf:aS 0 N.ai [.t (.sl (whr.map Wh.e)),.fn N.cT [.bp 0 0]] [.box (au m)]=some (B (whr.any fun x=> !eY m x),[.box (au m)]):=cf
 have cp:0<i→aS 0 N.aQ [.t (tL ptags),.t (tL tags)] []=some (I (vR ptags tags),[]):=fun h0=>xd ptags tags (ey h0).2 s1
 have cl:=zJ ptags tags
 generalize fE tags=st at*
 generalize fE first=sf at*
 generalize (whr.any fun x=> !eY m x)=an at*
 generalize eM tags=pr at*
 generalize oE ptags tags=le at*
 generalize vR ptags tags=cc at*
 clear hs s3
 by_cases c1:1≤tags.length∧tags.length≤12
 · have li:aS 0 N.cK [I tags.length,I 1,I 12] []=some (B true,[]):=by rw[li,decide_eq_true (by omega)]
   by_cases c2:whr.length=tags.length
   · cases pr with
     | false=>
       refine⟨fun h=>by simp at h,fun _=>?_⟩
       simp(disch:=omega)only[go_sem,K.bI,↓reduceIte,li,tg,ex,c2,reduceAdd,reduceSub]
       refine⟨_,rfl,?_,?_⟩<;>rfl
     | true=>
       by_cases c4:st=sf
       · subst c4
         simp only[decide_true]at eq
         cases i with
         | zero=>
           cases an with
           | true=>
             refine⟨fun h=>by simp at h,fun _=>?_⟩
             simp(disch:=omega)only[go_sem,K.bI,↓reduceIte,li,tg,ex,c2,va,so,eq,cf,reduceAdd,reduceSub]
             refine⟨_,rfl,?_,?_⟩<;>rfl
           | false=>
             refine⟨fun _=>?_,fun h=>by simp[c1,c2]at h⟩
             simp(disch:=omega)only[go_sem,K.bI,↓reduceIte,li,tg,ex,c2,va,so,eq,cf,reduceAdd,reduceSub]
         | succ i=>
           obtain⟨ey, -⟩:=ey (by omega)
           have cp:=cp (by omega)
           simp only[Nat.add_sub_cancel]at ey
           cases le with
           | false=>
             have cl:¬cc<0:=by simpa using cl
             refine⟨fun h=>by simp at h,fun _=>?_⟩
             simp(disch:=omega)only[go_sem,K.bI,↓reduceIte,li,tg,ex,c2,va,so,eq,ey,cp,reduceAdd,reduceSub]
             refine⟨_,rfl,?_,?_⟩<;>rfl
           | true=>
             have cl:cc<0:=by simpa using cl
             cases an with
             | true=>
               refine⟨fun h=>by simp at h,fun _=>?_⟩
               simp(disch:=omega)only[go_sem,K.bI,↓reduceIte,li,tg,ex,c2,va,so,eq,ey,cp,cf,reduceAdd,reduceSub]
               refine⟨_,rfl,?_,?_⟩<;>rfl
             | false=>
               refine⟨fun _=>?_,fun h=>by simp[c1,c2]at h⟩
               simp(disch:=omega)only[go_sem,K.bI,↓reduceIte,li,tg,ex,c2,va,so,eq,ey,cp,cf,reduceAdd,reduceSub]
       · simp only[c4,decide_false]at eq
         refine⟨fun h=>by simp[c4]at h,fun _=>?_⟩
         simp(disch:=omega)only[go_sem,K.bI,↓reduceIte,li,tg,ex,c2,va,so,eq,reduceAdd,reduceSub]
         refine⟨_,rfl,?_,?_⟩<;>rfl
   · refine⟨fun h=>by simp[c2]at h,fun _=>?_⟩
     simp(disch:=omega)only[go_sem,K.bI,↓reduceIte,li,ex,c2,reduceAdd,reduceSub]
     refine⟨_,rfl,?_,?_⟩<;>rfl
 · have li:aS 0 N.cK [I tags.length,I 1,I 12] []=some (B false,[]):=by rw[li,decide_eq_false (by omega)]
   refine⟨fun h=>by simp[c1]at h,fun _=>?_⟩
   simp(disch:=omega)only[go_sem,K.bI,↓reduceIte,li,ex,reduceAdd,reduceSub]
   refine⟨_,rfl,?_,?_⟩<;>rfl
end Go.Ev
namespace Go.Ev
open Go
variable [Lib] [cH] [b7]
theorem CM{α:Type} [Dat α](l:List α)(k:Nat)(hk:k<l.length)(x:α)(j:Nat):nth (l.set k x) j=if j=k then x else nth l j:=by
 unfold nth
 by_cases h:j=k
 · subst h;rw[if_pos rfl];simp[hk]
 · rw[if_neg h]
   have:¬k=j:=fun e=>h e.symm
   simp[List.getElem?_set,this]
theorem ud{α:Type} [Dat α]{a b:List α}(h:a.length=b.length)(e:∀j,j<a.length→nth a j=nth b j):a=b:=by
 apply List.ext_getElem h
 intro j h1 h2
 have:=e j h1
 rwa [bN (aLc h1),bN (aLc h2)]at this
def clW(m:bV)(t:Int)(into:Option (List Int))(y:List Int):Prop:=∀k,k<m.roads.length→∀back,FK into ((nth m.roads k).dst back)=true→0≤fF m k back 6 9 12→
 nth y ((nth m.roads k).src back).toNat<1099511627776→max t (nth y ((nth m.roads k).src back).toNat+fF m k back 6 9 12)≤2147483648→
 nth y ((nth m.roads k).dst back).toNat≤max t (nth y ((nth m.roads k).src back).toNat+fF m k back 6 9 12)
theorem IY{m:bV}{t t':Int}(ht:t≤t'){into:Option (List Int)}{y:List Int}(h:clW m t none y):clW m t' into y:=by
 intro k hk back _ h1 h2 h3
 have:=h k hk back rfl h1 h2 (by omega)
 omega
theorem qq{α:Type}{f:α→α×Bool}(P:α→Prop)(hP:∀l,P l→P (f l).1):∀n l,P l→P (iz f n l)
 | 0,l,h=>h
 | n+1,l,h=>by
   unfold iz
   split
   · exact qq P hP n _ (hP l h)
   · exact hP l h
theorem vq{α:Type}{f:α→α×Bool}(P:α→Prop)(mes:α→Nat)(hP:∀l,P l→P (f l).1∧((f l).2=true→mes (f l).1<mes l)∧((f l).2=false→(f l).1=l)):∀n l,P l→mes l<n→(f (iz f n l)).2=false∧P (iz f n l)
 | 0,l,_,h=>by omega
 | n+1,l,hp,h=>by
   obtain⟨h1,h2,h3⟩:=hP l hp
   unfold iz
   cases hf:(f l).2 with
   | true=>
     rw[if_pos rfl]
     have:=h2 hf
     exact vq P mes hP n _ h1 (by omega)
   | false=>
     rw[if_neg (by simp),h3 hf]
     exact⟨hf,hp⟩
theorem x8{m:bV}(t:Int)(into:Option (List Int))(k:Nat)(back:Bool)(l:List Int):
 (FK into ((nth m.roads k).dst back)=true∧0≤fF m k back 6 9 12∧nth l ((nth m.roads k).src back).toNat<1099511627776∧max t (nth l ((nth m.roads k).src back).toNat+fF m k back 6 9 12)≤2147483648∧
  max t (nth l ((nth m.roads k).src back).toNat+fF m k back 6 9 12)<nth l ((nth m.roads k).dst back).toNat∧
  ec m t into k back l=(l.set ((nth m.roads k).dst back).toNat (max t (nth l ((nth m.roads k).src back).toNat+fF m k back 6 9 12)),true))∨
 (ec m t into k back l=(l,false)∧¬(FK into ((nth m.roads k).dst back)=true∧0≤fF m k back 6 9 12∧nth l ((nth m.roads k).src back).toNat<1099511627776∧max t (nth l ((nth m.roads k).src back).toNat+fF m k back 6 9 12)≤2147483648∧
  max t (nth l ((nth m.roads k).src back).toNat+fF m k back 6 9 12)<nth l ((nth m.roads k).dst back).toNat)):=by
 unfold ec kJ ko
 cases FK into ((nth m.roads k).dst back)with
 | false=>right;simp
 | true=>
   simp only[↓reduceIte,true_and,aLr,decide_eq_true_eq]
   by_cases c:((0≤fF m k back 6 9 12∧nth l ((nth m.roads k).src back).toNat<1099511627776)∧max t (nth l ((nth m.roads k).src back).toNat+fF m k back 6 9 12)≤2147483648)∧max t (nth l ((nth m.roads k).src back).toNat+fF m k back 6 9 12)<nth l ((nth m.roads k).dst back).toNat
   · left
     refine⟨c.1.1.1,c.1.1.2,c.1.2,c.2,?_⟩
     rw[if_pos c]
     simp[c.1.1.1,c.1.1.2,c.1.2,c.2]
   · right
     refine⟨?_,fun h=>c ⟨⟨⟨h.1,h.2.1⟩,h.2.2.1⟩,h.2.2.2⟩⟩
     rw[if_neg c]
     simp only[Prod.mk.injEq,true_and]
     rw[Bool.eq_false_iff];intro h;simp only[aLr,decide_eq_true_eq]at h;exact c h
section
variable {m : bV} (h : m.ok) {t : Int} {into : Option (List Int)}
include h
theorem xg(P:List Int→Prop)(hP:∀l,l.length=m.av.length→bnd l→P l→∀k,k<m.roads.length→∀back,P (ec m t into k back l).1){l:List Int}(hl:l.length=m.av.length)(hb:bnd l)(hp:P l):∀k,k≤m.roads.length→P (dU m t into l k).1
 | 0,_=>hp
 | k+1,hk=>by
   have ih:=xg P hP hl hb hp k (by omega)
   have b1:=gH h (t:=t) (into:=into) hl hb k (by omega)
   have l1:(dU m t into l k).1.length=m.av.length:=by rw[df,hl]
   simp only[dU,qj]
   exact hP _ (by rw[mw,l1]) (oC h l1 b1 (by omega) false) (hP _ l1 b1 ih k (by omega) false) k (by omega) true
theorem xh(P:List Int→Prop)(hP:∀l,l.length=m.av.length→bnd l→P l→∀k,k<m.roads.length→∀back,P (ec m t into k back l).1){l:List Int}(hl:l.length=m.av.length)(hb:bnd l)(hp:P l):P (fD m t into l):=
 (qq (f:=cV m t into) (fun l=>(l.length=m.av.length∧bnd l)∧P l) (fun l hl=>⟨⟨by unfold cV;rw[df];exact hl.1.1,gH h hl.1.1 hl.1.2 _ (aLs _)⟩,xg h P hP hl.1.1 hl.1.2 hl.2 _ (aLs _)⟩) _ l ⟨⟨hl,hb⟩,hp⟩).2
theorem Gt{l:List Int}(hl:l.length=m.av.length)(hb:bnd l):(fD m t into l).length=m.av.length∧bnd (fD m t into l):=
 (qq (f:=cV m t into) (fun l=>(l.length=m.av.length∧bnd l)) (fun l hl=>⟨by unfold cV;rw[df];exact hl.1,gH h hl.1 hl.2 _ (aLs _)⟩) _ l ⟨hl,hb⟩)
theorem Gu{l:List Int}(hl:l.length=m.av.length)(hb:bnd l)(j:Nat):nth (fD m t into l) j≤nth l j:=
 xh h (fun l'=>nth l' j≤nth l j) (fun l' hl' hb' hp k hk back=>by
  have r2:=Road.wY (h.rs _ (az hk)) back
  rcases x8 (m:=m) t into k back l' with⟨_,_,_,_,c,e⟩ | ⟨e,_⟩
  · rw[e];simp only
    rw[CM _ _ (by omega)]
    split
    · rename_i hj;rw[hj]at hp;rw[hj];omega
    · exact hp
  · rw[e];exact hp) hl hb (Int.le_refl _)
theorem Gv{y l:List Int}(hy:clW m t into y)(hl:l.length=m.av.length)(hb:bnd l)(hle:∀j,nth y j≤nth l j):∀j,nth y j≤nth (fD m t into l) j:=
 xh h (fun l'=>∀j,nth y j≤nth l' j) (fun l' hl' hb' hp k hk back=>by
  have r2:=Road.wY (h.rs _ (az hk)) back
  rcases x8 (m:=m) t into k back l' with⟨c1,c2,c3,c4,c5,e⟩ | ⟨e,_⟩
  · rw[e];simp only
    intro j
    rw[CM _ _ (by omega)]
    split
    · rename_i hj
      have:=hp ((nth m.roads k).src back).toNat
      have:=hy k hk back c1 c2 (by omega) (by omega)
      rw[hj];omega
    · exact hp j
  · rw[e];exact hp) hl hb hle
theorem zK{l:List Int}(hl:l.length=m.av.length)(hb:bnd l):∀k,k≤m.roads.length→(dU m t into l k).2=false→∀i,i<k→∀back,(ec m t into i back l).2=false
 | 0,_,_,i,hi,_=>by omega
 | k+1,hk,hf,i,hi,back=>by
   have e:=(my h (t:=t) (into:=into) hl hb k (by omega)).2
   have ih:=zK hl hb k (by omega)
   simp only[dU,qj,Bool.or_eq_false_iff]at hf
   obtain⟨⟨f1,f2⟩,f3⟩:=hf
   have e:=e f1
   rw[e]at f2 f3
   have e2:=(u9 h (t:=t) (into:=into) hl hb (k:=k) (by omega) false).2 f2
   rw[e2]at f3
   by_cases c:i<k
   · exact ih f1 i c back
   · have:i=k:=by omega
     subst this
     cases back
     · exact f2
     · exact f3
theorem Gw{l:List Int}(hl:l.length=m.av.length)(hb:bnd l):clW m t into (fD m t into l):=by
 obtain⟨h1,h2,h3⟩:=vq (f:=cV m t into) (fun l=>l.length=m.av.length∧bnd l) ua (fun l ⟨hl,hb⟩=>⟨⟨by unfold cV;rw[df];exact hl,gH h hl hb _ (aLs _)⟩,my h hl hb _ (aLs _)⟩) (ua l+1) l ⟨hl,hb⟩ (Nat.lt_succ_self _)
 intro k hk back c1 c2 c3 c4
 have no:=zK h (t:=t) (into:=into) h2 h3 m.roads.length (aLs _) h1 k hk back
 change (ec m t into k back (fD m t into l)).2=false at no
 rcases x8 (m:=m) t into k back (fD m t into l)with⟨_,_,_,_,_,e⟩ | ⟨_,e⟩
 · rw[e]at no;cases no
 · exact Classical.byContradiction fun hc=>e ⟨c1,c2,c3,c4,by omega⟩
theorem Gx{l:List Int}(hl:l.length=m.av.length)(hb:bnd l)(hc:clW m t into l):fD m t into l=l:=by
 apply ud (by rw[(Gt h hl hb).1,hl])
 intro j hj
 exact Int.le_antisymm (Gu h hl hb j) (Gv h hc hl hb (fun _=>Int.le_refl _) j)
end
theorem zL{m:bV}(h:m.ok){w:Wh}(hl:w.frm.length=m.av.length)(ht:inT w.time)(hp:∀x∈w.frm,plT x)(hc:clW m w.time none w.frm):eY m w=true:=by
 have hb:bnd w.frm:=fun x hx=>xX (hp x hx)
 simp only[eY,oD,aLr,decide_eq_true_eq,aLx,aLu]
 exact⟨⟨⟨by omega,ht⟩,fun j hj=>hp _ (az hj)⟩,Gx h hl hb hc⟩
theorem vt{m:bV}(h:m.ok){w:Wh}(hv:eY m w=true):clW m w.time none w.frm:=by
 obtain⟨v1,v2,v3,v4⟩:=jM hv
 have:=Gw h (t:=w.time) (into:=none) v1 (fun x hx=>xX (v3 x hx))
 rwa [v4]at this
end Go.Ev
namespace Go.Ev
open Go
variable [Lib] [cH] [b7] [iC] [gg]
end Go.Ev
namespace Go.Ev
open Go
variable [Lib] [cH] [b7] [gI] [gy] [fG] [fH] [iC] [gg]
theorem IZ(a b:Wh)(ha:a.frm.length≤1000000):aS 0 N.eP [.t a.e,.t b.e] []=some (.tup [.t (iY a b).1.e,I (iY a b).2],[]):=by
 refine aE K.nB rfl ?_
 obtain⟨t1,l1⟩:=a
 obtain⟨t2,l2⟩:=b
 simp only[iY]at*
 by_cases c:l1.length=l2.length
 · rw[if_pos c]
   have ml:=kv l1 l2
   have lp:∀z0 z1 z2 z5 z7 z8:D,exS aS K.pU ⟨[z0,z1,z2,.bp 1 0,.bp 2 0,z5,.bp 3 0,z7,z8,.t (tL l1),I l1.length,I 0],[.box [I t1,.t (tL l1)],.box [I t2,.t (tL l2)],.box [I 0,.nil],.box [I (max t1 t2),.ref 5 0 0],.arr 1 false 0 [],.arr 1 false 0 []]⟩=
    some (.exit 0,⟨[.und,.und,.und,.bp 1 0,.bp 2 0,.und,.bp 3 0,.und,.und,.t (tL l1),I l1.length,I l1.length],[.box [I t1,.t (tL l1)],.box [I t2,.t (tL l2)],.box [I 0,.nil],.box [I (max t1 t2),.ref 5 0 (xb l1 l2 l1.length).length],.arr 1 false 0 [],.arr 1 false 0 (((xb l1 l2 l1.length).map (T.int .i64)).map .t)]⟩):=by
    intro z0 z1 z2 z5 z7 z8
    refine eK (fun j=>⟨[.und,.und,.und,.bp 1 0,.bp 2 0,.und,.bp 3 0,.und,.und,.t (tL l1),I l1.length,I j],[.box [I t1,.t (tL l1)],.box [I t2,.t (tL l2)],.box [I 0,.nil],.box [I (max t1 t2),.ref 5 0 (xb l1 l2 j).length],.arr 1 false 0 [],.arr 1 false 0 (((xb l1 l2 j).map (T.int .i64)).map .t)]⟩) l1.length rfl ?_ ?_ (by simp)
    · intro j hj
      have lj:=ml j
      simp only[xb]
      generalize xb l1 l2 j=r at*
      simp(disch:=omega)only[go_sem,K.kL,↓reduceIte,reduceAdd,reduceSub]
    · simp(disch:=omega)only[go_sem,K.kL,↓reduceIte,reduceAdd,reduceSub]
   generalize xb l1 l2 l1.length=r at*
   have c2:=c.symm
   simp(disch:=omega)only[go_sem,K.eP,↓reduceIte,c2,lp,reduceAdd,reduceSub]
 · rw[if_neg c]
   simp(disch:=omega)only[go_sem,K.eP,↓reduceIte,c,reduceAdd,reduceSub]
   rfl
end Go.Ev
namespace Go.Ev
open Go
variable [Lib] [cH] [b7]
section
variable {m : bV} (hm : m.ok) {N : Nat} {b : Bel} (hb : BOk m N b) {s : Wh} (hs : s.frm.length = m.av.length) {l : List Mch}
variable (hl : ∀ y ∈ l, y.pl.length ≤ m.av.length ∧ 1 ≤ y.pl.length ∧ ∀ x ∈ y.pl, 0 ≤ x ∧ x < m.av.length) {t a : Int} (t0 : 0 ≤ t) (t1 : t ≤ 10000) (a0 : 0 ≤ a) (a1 : a ≤ 10000) (d : di)
include hm hb hs hl t0 t1 a0 a1
omit hm hb t0 t1 a1 in
end
def di.skip(d:di)(n:Int):Nat→di
 | 0=>d
 | k+1=>((d.skip n k).next n).2
end Go.Ev
namespace Go.Ev
open Go
variable [Lib] [cH] [b7] [jy]
theorem DT(s:Wh)(t:Int)(k:Nat)(hk:k<s.frm.length):aS 0 N.bF [I k,.bp 0 0,.bp 1 0] [.box [I s.time,.t (tL s.frm)],.box [I t]]=some (B (decide (nth s.frm k≤t)),[.box [I s.time,.t (tL s.frm)],.box [I t]]):=by
 refine aE K.iZ rfl ?_
 simp(disch:=omega)only[go_sem,K.bF,↓reduceIte,reduceAdd,reduceSub]
theorem zM(s:Wh)(t:Int)(hl:s.frm.length≤1000000):aS 0 N.cB [.t s.e,I t] []=some (.t (tL (ql s t)),[]):=by
 refine aE K.jR rfl ?_
 have wh:=Iq s.frm.length hl N.bF [[tI s.time,tL s.frm],[tI t]] (fun k=>decide (nth s.frm k≤t)) (fun k hk=>DT s t k hk)
 have wh:aS 0 N.dY [I s.frm.length,.fn N.bF [.bp 0 0,.bp 1 0]] [.box [I s.time,.t (tL s.frm)],.box [I t]]=some (.t (tL (ql s t)),[.box [I s.time,.t (tL s.frm)],.box [I t]]):=wh
 obtain⟨time,frm⟩:=s
 simp only at hl wh
 generalize ql ⟨time,frm⟩ t=r at*
 simp(disch:=omega)only[go_sem,K.cB,↓reduceIte,wh,reduceAdd,reduceSub]
end Go.Ev
namespace Go.Ev
open Go
variable [Lib] [cH] [b7] [gI] [gy] [jy] [fG] [fH] [iC] [gg]
theorem x9(a b:List Int):∀n j,j<n→nth (xb a b n) j=min (nth a j) (nth b j)
 | 0,j,h=>by omega
 | n+1,j,h=>by
   have ln:=kv a b n
   by_cases e:j=n
   · subst e
     exact bN (by simp only[xb];rw[aLh (by omega),ln];simp)
   · have ih:=x9 a b n j (by omega)
     rw[← ih]
     have:(xb a b n)[j]?=some (nth (xb a b n) j):=gq (by omega)
     exact bN (by simp only[xb];rw[aLg (by omega)];exact this)
theorem DU{m:bV}(h:m.ok){a b:Wh}(ha:eY m a=true)(hb:eY m b=true):(iY a b).2=0∧eY m (iY a b).1=true∧(iY a b).1.frm.length=m.av.length∧∀j,j<m.av.length→nth (iY a b).1.frm j=min (nth a.frm j) (nth b.frm j):=by
 obtain⟨a1,a2,a3, -⟩:=jM ha
 obtain⟨b1,b2,b3, -⟩:=jM hb
 have ca:=vt h ha
 have cb:=vt h hb
 have e:iY a b=(⟨max a.time b.time,xb a.frm b.frm a.frm.length⟩,0):=by unfold iY;rw[if_pos (by omega)]
 rw[e]
 have mn:=fun j (hj:j<m.av.length)=>x9 a.frm b.frm a.frm.length j (by omega)
 refine⟨rfl,zL h (by simp only[kv];exact a1) (by unfold inT at *;simp only;omega) (fun x hx=>?_) ?_,by simp only[kv];exact a1,mn⟩
 · obtain⟨j,hj⟩:=aLf.1 hx
   have jl:=(aLe.1 hj).1
   simp only[kv]at jl
   have:=mn j (by omega)
   rw[bN hj]at this
   have x1:=a3 _ (az (l:=a.frm) (j:=j) jl)
   have x2:=b3 _ (az (l:=b.frm) (j:=j) (by omega))
   unfold plT inT at*
   omega
 · intro k hk back hi h1 h2 h3
   have r1:=Road.qL (h.rs _ (az hk)) back
   have r2:=Road.wY (h.rs _ (az hk)) back
   simp only at h2 h3 ⊢
   rw[mn _ (by omega)]at h2 h3 ⊢
   rw[mn _ (by omega)]
   have y1:=ca k hk back rfl h1
   have y2:=cb k hk back rfl h1
   omega
end Go.Ev
namespace Go.Ev
open Go
variable [Lib] [cH] [b7] [gI] [gy] [jy] [fG] [fH] [iC] [gg] [fg] [eb]
def lexB:List Int→List Int→Bool
 | _,[]=>false
 | [],_::_=>true
 | a::r,b::s=>decide (a<b)||(decide (a=b)&&lexB r s)
theorem rF(a:Int)(l:List Int)(j:Nat):nth (a::l) (j+1)=nth l j:=by simp[nth]
theorem rG(a:Int)(l:List Int):nth (a::l) 0=a:=by simp[nth]
theorem lB:∀a b:List Int,oE a b=lexB a b
 | a,[]=>by
   unfold oE lexB
   simp
 | [],b::s=>by
   unfold oE lexB
   simp
 | a::r,b::s=>by
   have ih:=lB r s
   unfold oE at ih ⊢
   have e:min (a::r).length (b::s).length=min r.length s.length+1:=by simp only[List.length_cons];omega
   rw[e,List.range_succ_eq_map,List.find?_cons]
   simp only[rG]
   by_cases h:a=b
   · subst h
     simp only[ne_eq,not_true_eq_false,decide_false,aLt,List.find?_map,lexB,decide_true,Bool.true_and,Int.lt_irrefl,Bool.false_or]
     rw[← ih]
     have:((fun j=>decide (¬nth (a::r) j=nth (a::s) j)) ∘ Nat.succ)=fun j=>decide (nth r j≠nth s j):=by
      funext j
      simp only[Function.comp,Nat.succ_eq_add_one,rF,ne_eq]
     rw[this]
     cases (List.range (min r.length s.length)).find? (fun j=>decide (nth r j≠nth s j))with
     | some j=>simp only[aLw,Nat.succ_eq_add_one,rF]
     | none=>simp only[Option.map_none,List.length_cons,Nat.add_lt_add_iff_right]
   · simp only[ne_eq,h,not_false_eq_true,decide_true,lexB,decide_false,Bool.false_and,Bool.or_false,rG]
theorem lex_trans:∀ {a b c:List Int},lexB a b=true→lexB b c=true→lexB a c=true
 | _,_,[],_,h=>by simp[lexB]at h
 | [],_,_::_,_,_=>rfl
 | _::_,[],_,h,_=>by simp[lexB]at h
 | a::r,b::s,c::t,h1,h2=>by
   simp only[lexB,Bool.or_eq_true,aLr,decide_eq_true_eq]at h1 h2 ⊢
   rcases h1 with h1 | ⟨h1,k1⟩
   · rcases h2 with h2 | ⟨h2,k2⟩
     · left;omega
     · left;omega
   · rcases h2 with h2 | ⟨h2,k2⟩
     · left;omega
     · right;exact⟨by omega,lex_trans k1 k2⟩
theorem lex_irrefl:∀a:List Int,lexB a a=false
 | []=>rfl
 | a::r=>by simp[lexB,lex_irrefl r]
theorem jA:∀a b:List Int,lexB a b=true∨a=b∨lexB b a=true
 | [],[]=> .inr (.inl rfl)
 | [],_::_=> .inl rfl
 | _::_,[]=> .inr (.inr rfl)
 | a::r,b::s=>by
   simp only[lexB,Bool.or_eq_true,aLr,decide_eq_true_eq,List.cons.injEq]
   rcases jA r s with h | h | h
   · by_cases c:a<b
     · exact .inl (.inl c)
     · by_cases c2:a=b
       · exact .inl (.inr ⟨c2,h⟩)
       · exact .inr (.inr (.inl (by omega)))
   · by_cases c:a<b
     · exact .inl (.inl c)
     · by_cases c2:a=b
       · exact .inr (.inl ⟨c2,h⟩)
       · exact .inr (.inr (.inl (by omega)))
   · by_cases c:a<b
     · exact .inl (.inl c)
     · by_cases c2:a=b
       · exact .inr (.inr (.inr ⟨c2.symm,h⟩))
       · exact .inr (.inr (.inl (by omega)))
structure WV(m:bV)(first:List Int)(x:World):Prop where
 pm:x.tags.Perm first
 wl:x.whr.length=first.length
 wv:∀w∈x.whr,eY m w=true
structure BV(m:bV)(first:List Int)(ws:List World):Prop where
 pr:eM first=true
 f1:1≤first.length
 f2:first.length≤12
 wv:∀x∈ws,WV m first x
 up:ws.Pairwise fun x y=>lexB x.tags y.tags=true
theorem Bw{a b:List Int}(h:a.Perm b)(hb:eM b=true):eM a=true:=by
 rw[vn]at hb ⊢
 exact⟨h.nodup_iff.2 hb.1,fun x hx=>hb.2 x (h.mem_iff.1 hx)⟩
theorem BV.bel{m:bV}{first:List Int}{ws:List World}(h:BV m first ws)(h1:1≤ws.length)(h2:ws.length≤24):yH m ⟨ws⟩=true:=by
 have w0:=h.wv _ (az (l:=ws) (j:=0) (by omega))
 have l0:=w0.pm.length_eq
 simp only[yH,aLr,decide_eq_true_eq,aLx,aLu,mB,Bool.or_eq_true,Er]
 have f1:=h.f1
 have f2:=h.f2
 refine⟨⟨⟨h1,h2⟩,by omega⟩,fun i hi=>?_⟩
 have wi:=h.wv _ (az (l:=ws) (j:=i) hi)
 have li:=wi.pm.length_eq
 have wl:=wi.wl
 refine⟨⟨⟨by omega,Bw wi.pm h.pr⟩,?_⟩,fun k hk=>⟨?_,?_⟩⟩
 · by_cases c:i=0
   · exact .inl c
   · right
     rw[lB]
     have:=(List.pairwise_iff_getElem.1 h.up) (i-1) i (by omega) hi (by omega)
     rwa [← bN (aLc (by omega:i-1<ws.length)),←bN (aLc hi)]at this
 · exact nE.2 (w0.pm.symm.mem_iff.1 (wi.pm.mem_iff.1 (az hk)))
 · exact wi.wv _ (az (by omega))
theorem Gy{m:bV}{ws:List World}(h:yH m ⟨ws⟩=true):BV m (nth ws 0).tags ws:=by
 obtain⟨h1,h2,h3,h4,h5⟩:=mE h
 simp only at h1 h2 h3 h4 h5
 have p0:=(jT (h5 0 (by omega))).2.2.1
 refine⟨p0,h3,h4,fun x hx=>?_,?_⟩
 · obtain⟨i,hi⟩:=aLf.1 hx
   have il:=(aLe.1 hi).1
   obtain⟨w1,w2,w3,w4⟩:=jT (h5 i il)
   rw[bN hi]at w1 w2 w3 w4
   refine⟨pX (jz w3) (jz p0) w1 fun y hy=>?_,w2,fun w hw=>?_⟩
   · obtain⟨j,hj⟩:=aLf.1 hy
     have:=(w4 j (aLe.1 hj).1).1
     rwa [bN hj]at this
   · obtain⟨j,hj⟩:=aLf.1 hw
     have:=(w4 j (by rw[w1,←w2];exact(aLe.1 hj).1)).2
     rwa [bN hj]at this
 · have key:∀d i,i+d+1<ws.length→lexB (nth ws i).tags (nth ws (i+d+1)).tags=true:=by
    intro d
    induction d with
    | zero=>
      intro i hi
      have:=h5 (i+1) hi
      simp only[mB,aLr,Bool.or_eq_true,decide_eq_true_eq]at this
      have:=this.1.2
      rw[← lB]
      simpa using this
    | succ d ih=>
      intro i hi
      have a:=ih i (by omega)
      have:=h5 (i+(d+1)+1) hi
      simp only[mB,aLr,Bool.or_eq_true,decide_eq_true_eq]at this
      have b:=this.1.2.resolve_left (by omega)
      rw[lB,show i+(d+1)+1-1=i+d+1 by omega]at b
      exact lex_trans a b
   rw[List.pairwise_iff_getElem]
   intro i j hi hj hij
   have:=key (j-i-1) i (by omega)
   rw[show i+(j-i-1)+1=j by omega,bN (aLc hi),bN (aLc hj)]at this
   exact this
end Go.Ev
namespace Go.Ev.N
def DV:Nat:=271
def cO:Nat:=272
def Bx:Nat:=273
def EA:Nat:=274
def Hr:Nat:=275
def Gz:Nat:=276
def fB:Nat:=277
def ic:Nat:=278
def gL:Nat:=279
def fX:Nat:=280
def bw:Nat:=281
def j5:Nat:=282
def Kz:Nat:=283
def N2:Nat:=284
def N3:Nat:=285
def gM:Nat:=286
def aM:Nat:=287
def gN:Nat:=288
def i6:Nat:=289
def fC:Nat:=290
def ie:Nat:=291
def ig:Nat:=292
def Ht:Nat:=293
def N4:Nat:=294
def N5:Nat:=295
def dz:Nat:=296
def aI:Nat:=297
def aJ:Nat:=298
def af:Nat:=299
def bn:Nat:=300
def aC:Nat:=301
def ax:Nat:=302
def aA:Nat:=303
def aj:Nat:=304
def aa:Nat:=305
def aL:Nat:=306
def aB:Nat:=307
def cD:Nat:=308
end Go.Ev.N
namespace Go.Ev.K
open Go.Ev
def gv:C:= (.seq (.ite [m v6,u (.bin .lss l0 (.i 8))] [] 0 .skip (.exit 0)) (.seq (.blk 1 (q [m v2,m v4,u (.ca N.bP 0 [] [.l 1,.l 0]),m v2,m v4,u (.ca N.bP 0 [] [.l 1,.l 0]),x 7 l3,x 8 l1] [] (q [h 2 v3,h 1 v5,m v7,m v8,m v6,u (.bin .mul (.i 5) l0),u (.ca N.bw 0 [] [.l 5,.l 4,.l 3,.l 2,.l 0]),m l0,u (.ex l0 0),u (.ex l1 1),w 9 (.al [.nil] []),u (.st l0 l2 1 []),x 10 l2] [] (q [h 2 v3,h 1 v5,m v7,m v8,m v6,u (.bin .mul (.i 5) l0),u (.ca N.bh 0 [] [.l 5,.l 4,.l 3,.l 2,.l 0]),m l0,u (.ex l0 0),u (.ex l1 1),w 11 (.al [.nil] []),u (.st l0 l2 1 []),x 12 l2] [] (.seq (.ite [h 1 v9,h 1 v11,m v10,m v12,u (.ca N.gL 0 [] [.l 3,.l 2,.l 1,.l 0]),u (.un .not l0),m l0,y 0 false (.fa v9 0),i 1 false l0,y 2 false (.ln l0),y 3 false (.bin .gtr l0 (.i 24)),u (.pk l4 (.b true) l0)] [] 0 (q [x 1 (.b false)] [] .ret) .skip) (.reg [h 1 v11,u (.st v5 l0 1 [])] [])))))) (.reg [m v6,u (.bin .add l0 (.i 1)),x 6 l0] [])))
def lC:C:= .loop true [0,1,7,8,9,10,11,12] K.gv
def cO:Fn:= { aY:=1,vars:=[0,2,3,4,5,6,8,9,10,11,12,13,14],body:=(q [x 1 (.b false)] [] (.seq (.ite [m v0,u (.ca N.gB 0 [] [.l 0]),u (.un .not l0)] [] 0 (q [u (.ca N.fB 0 [] []),x 1 l0] [] .ret) .skip) (q [m v0,u (.ca N.iJ 0 [] [.l 0]),x 2 l0] [] (q [u (.ca N.fX 0 [] []),w 3 (.al [.nil,.nil] []),u (.st l0 l1 2 [])] [] (q [m v2,u (.ca N.bP 0 [] [.l 0,.i 3]),u (.bin .add (.i 3) l0),x 4 l0] [] (q [w 5 (.al [.nil] []),h 2 v3,u (.bs [.i 1,.i 2,.i 3,.i 4,.i 5] 1),m v4,u (.sc l1 none (some l0) 1),m v4,u (.mk l0 (z0) 1),u (.ca N.dj 0 [] [.l 5,.l 2,.l 0,.i 0]),m l0,u (.ex l0 0),u (.ex l1 1),u (.st l10 l1 1 []),m l1] [(0,7),(0,8),(1,7),(2,7),(4,7)] (.seq (q [x 6 (.i 0)] [] (.blk 0 K.lC)) (q [u (.ca N.fB 0 [] []),x 1 l0] [] .ret)))))))),res:=[(1,none)]}
def fB:Fn:= { aY:=0,vars:=[0,1,2,3,4,5,6,7,8],body:=(q [x 0 (.b false)] [] (q [u (.ca N.fX 0 [] []),w 1 (.al [.nil,.nil] []),u (.st l0 l1 2 [])] [] (q [h 2 v1,u (.bs [.i 4,.i 9] 1),u (.bs [.i 0,.i 0] 1),u (.ca N.ic 0 [] [.l 2,.l 1,.l 0,.i 0]),m l0,u (.ex l0 0),u (.ex l1 1),w 2 (.al [.nil] []),u (.st l0 l2 1 []),x 3 l2] [] (q [h 2 v1,h 1 v2,u (.ca N.bw 0 [] [.l 1,.l 0,.i 0,.i 1,.i 0]),m l0,u (.ex l0 0),u (.ex l1 1),w 4 (.al [.nil] []),u (.st l0 l2 1 []),x 5 l2] [] (q [h 2 v1,h 1 v4,u (.bs [.i 1] 1),u (.ca N.j5 0 [] [.l 2,.l 1,.i 9,.l 0,.i 20,.i 20]),m l0,u (.ex l0 0),u (.ex l1 1),w 6 (.al [.nil] []),u (.st l0 l2 1 []),x 7 l2] [] (q [h 1 v6,u (.ca N.er 0 [] [.l 0,.i 0,.i 20]),x 8 l0] [] (q [m v3,u (.bin .eql l0 (.i 0)),m l0,e 0 true v5,y 1 true (.bin .eql l0 (.i 0)),u (.pk l2 l0 (.b false)),m l0,e 0 true v7,y 1 true (.bin .eql l0 (.i 0)),u (.pk l2 l0 (.b false)),m l0,y 0 true (.fa v2 0),i 1 true l0,y 2 true (.ln l0),y 3 true (.bin .eql l0 (.i 1)),u (.pk l4 l0 (.b false)),m l0,y 0 true (.fa v4 0),i 1 true l0,y 2 true (.ln l0),y 3 true (.bin .eql l0 (.i 2)),u (.pk l4 l0 (.b false)),m l0,y 0 true (.fa v6 0),i 1 true l0,y 2 true (.ln l0),y 3 true (.bin .eql l0 (.i 2)),u (.pk l4 l0 (.b false)),m l0,e 0 true v8,y 1 true (.ln l0),y 2 true (.bin .eql l0 (.i 2)),u (.pk l3 l0 (.b false)),m l0,y 0 true (.ld v1 2 true),y 1 true (.ld v6 1 true),y 2 true (.ca N.dm 0 [] [.l 1,.l 0]),u (.pk l3 l0 (.b false)),x 0 l0] [] .ret))))))),res:=[(0,none)]}
def vu:C:= (.its [u (.bin .lss v13 v12)] [] 0 .skip (.exit 1) (.seq (.blk 2 (q [a 1 v11 v13,g l0,x 8 l0] [] (q [h 2 v4,m v8,m v3,u (.ca N.gk 0 [] [.l 2,.l 1,.l 0]),m l0,u (.ex l0 0),u (.ex l1 1),w 9 (.al [z0,.nil] []),u (.st l0 l2 2 []),x 10 l2] [] (.seq (.ite [m v10,u (.bin .neq l0 (.i 0))] [] 0 (q [u (.bd [.nil] []),m v10,u (.st v5 l1 1 []),x 6 l1] [] .ret) .skip) (.reg [f 1 v7,g l0,h 2 v9,u (.bs [.l 0] 2),u (.app l2 l0 true 2),f 1 v7,u (.st l0 l1 1 [])] []))))) (.reg [u (.bin .add v13 (.i 1)),x 13 l0] [])))
def vS:C:= .loop true [0,1,2,6,8,9,10] K.vu
def ic:Fn:= { aY:=4,vars:=[0,1,2,3,4,8,9,10,12,13,14,41,42,43],body:=(q [w 4 (.bx v0 2),w 5 (.al [.nil] []),x 6 (.i 0)] [] (.seq (.blk 0 (.ite [h 2 v4,u (.ca N.dV 0 [] [.l 0]),u (.un .not l0),m l0,e 0 false v1,y 1 false (.ln l0),e 2 false v2,y 3 false (.ln l0),y 4 false (.bin .neq l2 l0),u (.pk l5 (.b true) l0),m l0,e 0 false v1,y 1 false (.ln l0),y 2 false (.ca N.cK 0 [] [.l 0,.i 1,.i 12]),y 3 false (.un .not l0),u (.pk l4 (.b true) l0),m l0] [] 0 (q [u (.bd [.nil] []),u (.st v5 l0 1 []),x 6 (.i 6)] [] .ret) (.ite [m v1,u (.ca N.dQ 0 [] [.l 0]),u (.un .not l0),m l0] [] 0 (q [u (.bd [.nil] []),u (.st v5 l0 1 []),x 6 (.i 41)] [] .ret) .skip))) (q [m v1,u (.ca N.aH 0 [] [.l 0]),u (.bd [.nil,.nil] [(0,1,.l 0)]),w 7 (.al [.nil,.nil] [(1,2)]),u (.st l0 l1 2 [(1,2)])] [] (.seq (q [x 11 v2,w 12 (.ln l0),x 13 (.i 0)] [] (.blk 1 K.vS)) (q [h 2 v7,u (.bs [.l 0] 2),u (.bd [.nil] [(0,1,.l 0)]),u (.st v5 l0 1 []),x 6 (.i 0)] [] .ret))))),res:=[(5,some (1,true)),(6,none)]}
def gL:Fn:= { aY:=4,vars:=[0,1,2,3,4,5,8],body:=(q [w 4 (.bx v0 1),w 5 (.bx v1 1),x 6 (.b false)] [] (q [m v2,m v3,u (.bin .eql l1 l0),m l0,y 0 true (.ld v4 1 true),y 1 true (.ld v5 1 true),y 2 true (.ca N.gM 0 [] [.l 1,.l 0]),u (.pk l3 l0 (.b false)),x 6 l0] [] .ret)),res:=[(6,none)]}
def fX:Fn:= { aY:=0,vars:=[0],body:=(q [w 0 (.al [.nil,.nil] [])] [] (q [u (.bd [z0,z1] [(1,1,.b true)]),u (.bd [z0,z1] []),u (.bs [.l 1,.l 0] 2),u (.bd [z0,z0] [(0,1,.i 1),(1,1,.i 1)]),u (.bd [z0,z0,z0,z0,z1,z1,z0,z0,z0,z0] [(1,1,.i 1),(2,1,.i 12),(3,1,.i 1),(4,1,.b true),(6,2,.l 0)]),u (.bs [.l 0] 10),u (.bd [.nil,.nil] [(0,1,.l 3),(1,1,.l 0)]),u (.st v0 l0 2 [])] [] .ret)),res:=[(0,some (2,true))]}
def cu:C:= (.its [u (.bin .lss v21 (.i 2))] [] 0 .skip (.exit 3) (.seq (.blk 4 (q [u (.ix v20 v21 2 1 false),x 13 l0] [] (q [f 1 v12,g l0,m v13,a 2 l1 l0,h 2 l0,m v4,u (.ca N.dy 0 [] [.l 1,.l 0]),m l0,u (.ex l0 0),u (.ex l1 1),w 14 (.al [z0,.nil] []),u (.st l0 l2 2 []),x 15 l2] [] (.ite [m v15,u (.bin .eql l0 (.i 0))] [] 0 (.reg [f 1 v12,g l0,m v13,h 2 v14,a 2 l2 l1,u (.st l0 l1 2 [])] []) .skip)))) (.reg [u (.bin .add v21 (.i 1)),x 21 l0] [])))
def mF:C:= .loop true [0,1,5,8,9,11,13,14,15,16] K.cu
def ft:C:= (.its [u (.bin .lss v19 v18)] [] 0 .skip (.exit 1) (.seq (.blk 2 (q [a 2 v17 v19,h 2 l0,w 11 (.al [.nil,.nil] []),u (.st l0 l1 2 [])] [] (.seq (.ite [f 1 v11,g l0,m v2,a 2 l1 l0,h 2 l0,f 1 v11,g l0,m v3,a 2 l1 l0,h 2 l0,m v4,u (.ca N.gN 0 [] [.l 6,.l 1,.l 0]),u (.un .not l0)] [] 0 (.exit 2) .skip) (q [h 2 v11,u (.ca N.cD 1 [] [.l 0]),w 12 (.al [.nil,.nil] []),u (.st l0 l1 2 [])] [] (q [f 0 v12,g l0,m v2,f 0 v12,g l0,m v3,f 0 v12,g l0,m v3,a 1 l1 l0,g l0,f 0 v12,g l0,m v2,a 1 l1 l0,g l0,a 1 (.l 14) (.l 13),u (.st l0 l6 1 []),a 1 (.l 13) (.l 12),u (.st l0 l3 1 [])] [(4,18)] (.seq (q [m v2,m v3,w 20 (.bd [z0,z0] [(0,1,.l 1),(1,1,.l 0)]),x 21 (.i 0)] [] (.blk 3 K.mF)) (.reg [m v10,h 2 v12,u (.bs [.l 0] 2),u (.app l2 l0 true 2),x 10 l0] []))))))) (.reg [u (.bin .add v19 (.i 1)),x 19 l0] [])))
def mG:C:= .loop true [0,1,5,8,9,11,12,13,14,15,16,20,21] K.ft
def bw:Fn:= { aY:=5,vars:=[0,1,2,3,4,5,6,10,11,12,13,15,16,18,19,20,21,60,61,62,101,102],body:=(q [w 5 (.bx v0 2),w 6 (.bx v1 1),w 7 (.al [.nil] []),x 8 (.i 0)] [] (.seq (.ite [h 2 v5,h 1 v6,u (.ca N.dm 0 [] [.l 1,.l 0]),u (.un .not l0)] [] 0 (q [h 1 v6,u (.st v7 l0 1 []),x 8 (.i 6)] [] .ret) .skip) (q [f 0 v6,g l0,a 2 l0 (.i 0),f 0 l0,g l0,u (.ln l0),u (.bin .sub l0 (.i 1)),x 9 l0] [] (.seq (.blk 0 (.ite [m v2,m v9,u (.ca N.cK 0 [] [.l 1,.i 0,.l 0]),u (.un .not l0),m l0,e 0 false v3,e 1 false v9,y 2 false (.ca N.cK 0 [] [.l 1,.i 0,.l 0]),y 3 false (.un .not l0),u (.pk l4 (.b true) l0),m l0,e 0 false v2,e 1 false v3,y 2 false (.bin .eql l1 l0),u (.pk l3 (.b true) l0),m l0] [] 0 (q [h 1 v6,u (.st v7 l0 1 []),x 8 (.i 19)] [] .ret) (.ite [m v4,u (.ca N.cK 0 [] [.l 0,.i 0,.i 2147483648]),u (.un .not l0),m l0] [] 0 (q [h 1 v6,u (.st v7 l0 1 []),x 8 (.i 8)] [] .ret) .skip))) (q [f 0 v6,g l0,u (.ca N.aM 1 [] [.l 0]),x 10 l0] [] (.seq (q [f 0 v6,w 17 (.ld l0 1 false),w 18 (.ln l0),x 19 (.i 0)] [] (.blk 1 K.mG)) (q [m v10,u (.ca N.fC 0 [] [.l 0]),u (.bd [.nil] [(0,1,.l 0)]),w 16 (.al [.nil] []),u (.st l0 l1 1 [])] [] (.seq (.ite [f 0 v16,g l0,u (.ln l0),u (.bin .gtr l0 (.i 24))] [] 0 (q [h 1 v6,u (.st v7 l0 1 []),x 8 (.i 44)] [] .ret) .skip) (q [h 1 v16,u (.st v7 l0 1 []),x 8 (.i 0)] [] .ret))))))))),res:=[(7,some (1,true)),(8,none)]}
def j5:Fn:= { aY:=6,vars:=[0,1,2,3,4,5,6,7,9,10,11,12,13],body:=(q [w 6 (.bx v0 2),w 7 (.bx v1 1),w 8 (.bx v3 1),w 9 (.bx v4 1),w 10 (.bx v5 1),w 11 (.al [.nil] []),x 12 (.i 0)] [] (q [h 2 v6,h 1 v7,m v2,u (.mf N.ig [.v 6,.v 8,.v 9,.v 10]),u (.ca N.ie 0 [] [.l 3,.l 2,.l 1,.l 0]),u (.ex l0 0),u (.ex l1 1),u (.st v11 l1 1 []),x 12 l1] [] .ret)),res:=[(11,some (1,true)),(12,none)]}
end Go.Ev.K
namespace Go.Ev
class iu [Lib]:Prop where
 jV:Lib.fs N.cO=some K.cO
 rH:Lib.fs N.fB=some K.fB
 rI:Lib.fs N.ic=some K.ic
 oP:Lib.fs N.gL=some K.gL
 oQ:Lib.fs N.fX=some K.fX
 kd:Lib.fs N.bw=some K.bw
 vv:Lib.fs N.j5=some K.j5
namespace K
variable [Lib] [iu]
theorem jV:Lib.fs N.cO=some K.cO:=iu.jV
theorem rH:Lib.fs N.fB=some K.fB:=iu.rH
theorem rI:Lib.fs N.ic=some K.ic:=iu.rI
theorem oP:Lib.fs N.gL=some K.gL:=iu.oP
theorem oQ:Lib.fs N.fX=some K.fX:=iu.oQ
theorem kd:Lib.fs N.bw=some K.bw:=iu.kd
theorem vv:Lib.fs N.j5=some K.j5:=iu.vv
end K
end Go.Ev
namespace Go.Ev.K
open Go.Ev
def lX:C:= (.seq (.ite [m v8,f 1 v6,g l0,u (.ln l0),u (.bin .lss l3 l0)] [] 0 .skip (.exit 2)) (.seq (.blk 3 (.ite [f 1 v6,g l0,m v8,a 2 l1 l0,h 2 l0,f 1 v7,g l0,m v8,a 2 l1 l0,h 2 l0,u (.ca N.fV 0 [] [.l 5,.l 0]),u (.un .not l0)] [] 0 (q [x 4 (.b false)] [] .ret) .skip)) (.reg [m v8,u (.bin .add l0 (.i 1)),x 8 l0] [])))
def rJ:C:= .loop true [0,1,4] K.lX
def lY:C:= (.seq (.ite [m v5,f 0 v2,g l0,u (.ln l0),u (.bin .lss l3 l0)] [] 0 .skip (.exit 0)) (.seq (.blk 1 (q [w 6 (.al [.nil,.nil] []),w 7 (.al [.nil,.nil] []),f 0 v2,g l0,m v5,a 2 l1 l0,h 2 l0,f 0 v3,g l0,m v5,a 2 l1 l0,h 2 l0,u (.st l11 l5 2 []),u (.st l11 l1 2 [])] [(8,13),(10,13),(11,13)] (.seq (.ite [f 0 v6,g l0,f 0 v7,g l0,u (.ca N.bQ 0 [] [.l 2,.l 0]),u (.un .not l0),m l0,y 0 false (.fa v6 1),i 1 false l0,y 2 false (.ln l0),y 3 false (.fa v7 1),i 4 false l0,y 5 false (.ln l0),y 6 false (.bin .neq l3 l0),u (.pk l7 (.b true) l0)] [] 0 (q [x 4 (.b false)] [] .ret) .skip) (q [x 8 (.i 0)] [] (.blk 2 K.rJ))))) (.reg [m v5,u (.bin .add l0 (.i 1)),x 5 l0] [])))
def rK:C:= .loop true [0,1,4,6,7,8] K.lY
def gM:Fn:= { aY:=2,vars:=[0,1,2,3,4,5,6,7,8],body:=(q [w 2 (.bx v0 1),w 3 (.bx v1 1),x 4 (.b false)] [] (.seq (.ite [f 0 v2,g l0,u (.ln l0),f 0 v3,g l0,u (.ln l0),u (.bin .neq l3 l0)] [] 0 (q [x 4 (.b false)] [] .ret) .skip) (.seq (q [x 5 (.i 0)] [] (.blk 0 K.rK)) (q [x 4 (.b true)] [] .ret)))),res:=[(4,none)]}
def aM:Fn:= { aY:=1,vars:=[0,2],body:=(q [w 1 (.mv (.c (.nil)))] [] (.itk [m v0,u (.eqk (.sl) false l0 (.c (.nil)))] [] 0 (q [w 1 (.nw 2)] [] .ret) .skip (q [u (.bsr [] 2),m v0,u (.app l1 l0 false 2),x 1 l0] [] .ret))),res:=[(1,none)]}
def gN:Fn:= { aY:=3,vars:=[0,1,2,3,4,6,7],body:=(q [w 3 (.bx v0 2),w 4 (.bx v1 2),x 5 (.b false)] [] (q [h 2 v4,m v2,u (.ca N.cB 0 [] [.l 1,.l 0]),w 6 (.al [.nil] []),u (.st l0 l1 1 [])] [] (q [h 2 v3,m v2,u (.ca N.cB 0 [] [.l 1,.l 0]),u (.mf N.dz [.v 6]),u (.ca N.aG 0 [] [.l 1,.l 0]),x 5 l0] [] .ret))),res:=[(5,none)]}
def vw:C:= (.its [u (.bin .lss v7 v6)] [] 0 .skip (.exit 0) (.seq (.blk 1 (q [a 2 v5 v7,h 2 l0,w 4 (.al [z0,.nil] []),u (.st l0 l1 2 [])] [] (.reg [f 1 v3,g l0,f 0 v4,g l0,f 1 v4,g l0,u (.ca N.aH 0 [] [.l 0]),u (.bd [z0,.nil] [(0,1,.l 3),(1,1,.l 0)]),u (.bs [.l 0] 2),u (.app l7 l0 true 2),f 1 v3,u (.st l0 l1 1 [])] [(1,7),(1,9),(3,7)]))) (.reg [u (.bin .add v7 (.i 1)),x 7 l0] [])))
def vT:C:= .loop true [0,1,4] K.vw
def i6:Fn:= { aY:=1,vars:=[0,1,2,3,5,11,12,13],body:=(q [w 1 (.bx v0 2),w 2 (.al [.nil,.nil] [])] [] (q [f 0 v1,g l0,u (.ca N.aH 0 [] [.l 0]),u (.bd [.nil,.nil] [(0,1,.l 0)]),w 3 (.al [.nil,.nil] [(1,2)]),u (.st l0 l1 2 [(1,2)])] [] (.seq (q [f 1 v1,w 5 (.ld l0 1 false),w 6 (.ln l0),x 7 (.i 0)] [] (.blk 0 K.vT)) (q [h 2 v3,u (.st v2 l0 2 [])] [] .ret)))),res:=[(2,some (2,true))]}
def kR:C:= (.its [u (.bin .lss v11 v10)] [] 0 .skip (.exit 2) (.seq (.blk 3 (q [m v11,x 6 l0] [] (.reg [m v3,m v5,u (.bin .sub l0 (.i 1)),a 2 l2 l0,f 1 l0,g l0,m v6,m v3,m v5,u (.bin .sub l0 (.i 1)),a 2 l2 l0,f 1 l0,g l0,m v6,a 2 l1 l0,h 2 l0,f 1 v4,g l0,m v6,a 2 l1 l0,h 2 l0,u (.ca N.eP 0 [] [.l 5,.l 0]),m l0,u (.ex l0 0),u (.ex l1 1),a 2 (.l 19) (.l 18),u (.st l0 l2 2 [])] [(3,22),(5,22)]))) (.reg [u (.bin .add v11 (.i 1)),x 11 l0] [])))
def pY:C:= .loop false [0,1,2,6] K.kR
def fY:C:= (.its [u (.bin .lss v9 v8)] [] 0 .skip (.exit 0) (.seq (.blk 1 (q [a 2 v7 v9,h 2 l0,w 4 (.al [.nil,.nil] []),u (.st l0 l1 2 [])] [] (.seq (q [m v3,u (.ln l0),x 5 l0] [] (.ite [m v5,u (.bin .gtr l0 (.i 0)),m l0,e 0 true v3,e 1 true v5,y 2 true (.bin .sub l0 (.i 1)),y 3 true (.ia l2 l0 2),y 4 true (.fa l0 0),i 5 true l0,y 6 true (.fa v4 0),i 7 true l0,y 8 true (.ca N.aT 0 [] [.l 2,.l 0]),u (.pk l9 l0 (.b false))] [] 0 (.seq (q [f 1 v4,g l0,w 10 (.ln l0),x 11 (.i 0)] [] (.blk 2 K.pY)) (.exit 1)) .skip)) (.reg [m v3,h 2 v4,u (.ca N.cD 1 [] [.l 0]),u (.bsr [.l 0] 2),u (.app l3 l0 false 2),x 3 l0] [])))) (.reg [u (.bin .add v9 (.i 1)),x 9 l0] [])))
def pZ:C:= .loop false [0,1,2,4,5,6,10,11] K.fY
def fC:Fn:= { aY:=1,vars:=[0,2,3,4,6,7,8,12,13,14,35,36],body:=(q [w 1 (.mv (.c (.nil)))] [] (q [m v0,u (.ca N.aJ 0 [] [.l 0]),u (.ca N.aI 0 [] [.l 0,.c (.fn N.af [])]),x 2 l0] [] (q [w 3 (.nw 2)] [] (.seq (q [x 7 v2,w 8 (.ln l0),x 9 (.i 0)] [] (.blk 0 K.pZ)) (q [m v3,x 1 l0] [] .ret))))),res:=[(1,none)]}
def vA:C:= (.its [u (.bin .lss v16 v15)] [] 0 .skip (.exit 0) (.seq (.blk 1 (q [a 2 v14 v16,h 2 l0,w 9 (.al [.nil,.nil] []),u (.st l0 l1 2 [])] [] (q [f 0 v9,g l0,m v2,u (.ca N.bq 0 [] [.l 1,.l 0]),x 10 l0] [] (q [h 2 v9,u (.ca N.cD 1 [] [.l 0]),w 11 (.al [.nil,.nil] []),u (.st l0 l1 2 [])] [] (q [m v3,f 1 v11,g l0,m v10,a 2 l1 l0,h 2 l0,u (.cw l5 0 [] [.l 0]),m l0,u (.ex l0 0),u (.ex l1 1),w 12 (.al [z0,.nil] []),u (.st l0 l2 2 []),x 13 l2] [] (.seq (q [x 17 v13] [] (.blk 2 (.seq (q [u (.bin .eql v17 (.i 6)),x 18 l0] [] (.itv 18 .skip (.reg [u (.bin .eql v17 (.i 8)),x 18 l0] []))) (.itv 18 (q [h 1 v5,m v13,u (.st v6 l1 1 []),x 7 l1] [] .ret) (.ite [u (.bin .eql v17 (.i 43)),m l0] [] 0 (.exit 1) (.ite [u (.bin .eql v17 (.i 0)),m l0] [] 0 (.reg [f 1 v11,g l0,m v10,h 2 v12,a 2 l2 l1,u (.st l0 l1 2 [])] []) .skip)))))) (.reg [f 0 v8,g l0,h 2 v11,u (.bs [.l 0] 2),u (.app l2 l0 true 2),f 0 v8,u (.st l0 l1 1 [])] []))))))) (.reg [u (.bin .add v16 (.i 1)),x 16 l0] [])))
def vU:C:= .loop true [0,1,4,7,9,10,11,12,13,17,18] K.vA
def ie:Fn:= { aY:=4,vars:=[0,1,2,3,4,5,8,9,10,12,13,14,15,16,32,33,34,54,55],body:=(q [w 4 (.bx v0 2),w 5 (.bx v1 1),w 6 (.al [.nil] []),x 7 (.i 0)] [] (.seq (.ite [h 2 v4,h 1 v5,u (.ca N.dm 0 [] [.l 1,.l 0]),u (.un .not l0)] [] 0 (q [h 1 v5,u (.st v6 l0 1 []),x 7 (.i 6)] [] .ret) .skip) (.seq (.ite [f 0 v5,g l0,a 2 l0 (.i 0),f 0 l0,g l0,m v2,u (.ca N.aR 0 [] [.l 1,.l 0]),u (.un .not l0)] [] 0 (q [h 1 v5,u (.st v6 l0 1 []),x 7 (.i 41)] [] .ret) .skip) (q [w 8 (.al [.nil] [(0,2)])] [] (.seq (q [f 0 v5,w 14 (.ld l0 1 false),w 15 (.ln l0),x 16 (.i 0)] [] (.blk 0 K.vU)) (.seq (.ite [f 0 v8,g l0,u (.ln l0),u (.bin .eql l0 (.i 0))] [] 0 (q [h 1 v5,u (.st v6 l0 1 []),x 7 (.i 43)] [] .ret) .skip) (q [h 1 v8,u (.st v6 l0 1 []),x 7 (.i 0)] [] .ret))))))),res:=[(6,some (1,true)),(7,none)]}
def ig:Fn:= { aY:=5,vars:=[0,1,2,3,4,5,6,7],body:=(q [w 5 (.bx v0 2),w 6 (.al [z0,.nil] []),x 7 (.i 0)] [] (q [h 2 v1,h 2 v5,g v2,g v3,g v4,u (.ca N.jd 0 [] [.l 4,.l 3,.l 2,.l 1,.l 0]),u (.ex l0 0),u (.ex l1 1),u (.st v6 l1 2 []),x 7 l1] [] .ret)),res:=[(6,some (2,true)),(7,none)]}
def dz:Fn:= { aY:=2,vars:=[0,1,3],body:=(q [x 2 (.b false)] [] (q [g v1,m v0,u (.ca N.aR 0 [] [.l 1,.l 0]),x 2 l0] [] .ret)),res:=[(2,none)]}
def aI:Fn:= { aY:=2,vars:=[0,1,4,5],body:=(q [w 2 (.mv (.c (.nil)))] [] (q [m v0,u (.ca N.bn 1 [] [.l 0]),x 3 l0] [] (q [m v3,m v1,u (.ca N.aC 0 [0] [.l 1,.l 0])] [] (q [m v3,x 2 l0] [] .ret)))),res:=[(2,none)]}
def aJ:Fn:= { aY:=1,vars:=[0,1,2],body:=(q [w 1 (.bx v0 1),w 2 (.mv (.c (.und)))] [] (q [u (.mf N.ax [.v 1]),x 2 l0] [] .ret)),res:=[(2,none)]}
def af:Fn:= { aY:=2,vars:=[0,1,2,3,4],body:=(q [w 2 (.bx v0 2),w 3 (.bx v1 2),x 4 (.i 0)] [] (q [f 0 v2,g l0,f 0 v3,g l0,u (.ca N.aQ 0 [] [.l 2,.l 0]),x 4 l0] [] .ret)),res:=[(4,none)]}
def bn:Fn:= { aY:=1,vars:=[2],body:= .fail,res:=[(0,none)],prim:=[3,N.ax]}
def aC:Fn:= { aY:=2,vars:=[0,1],body:=(.reg [m v0,m v0,u (.ln l0),m v1,u (.ca N.aA 0 [0] [.l 3,.l 1,.l 0])] []),res:=[]}
def ij:C:= (.its [u (.bin .lss v5 v4)] [] 0 .skip (.exit 0) (.seq (.blk 1 (q [a 2 v3 v5,h 2 l0,w 2 (.al [.nil,.nil] []),u (.st l0 l1 2 [])] [] (.ite [m v0,h 2 v2,u (.cw l1 0 [] [.l 0]),u (.un .not l0)] [] 0 .ret .skip))) (.reg [u (.bin .add v5 (.i 1)),x 5 l0] [])))
def iv:C:= .loop true [1,2] K.ij
def ax:Fn:= { aY:=2,vars:=[0,1,4,5,6,7],body:=(q [w 3 (.ld v1 1 false),w 4 (.ln l0),x 5 (.i 0)] [] (.blk 0 K.iv)),res:=[]}
def bk:C:= (.seq (.ite [m v5,m v1,u (.bin .leq l1 l0)] [] 0 .skip (.exit 0)) (.blk 1 (q [m v0,m v4,m v5,m v2,u (.ca N.aj 0 [0] [.l 3,.l 2,.l 1,.l 0])] [] (q [m v5,x 4 l0] [] (.reg [m v5,m v3,u (.bin .add l1 l0),x 5 l0] [])))))
def cy:C:= .loop true [6] K.bk
def bB:C:= (.seq (.ite [m v5,m v1,u (.bin .leq l1 l0)] [] 0 .skip (.exit 4)) (.blk 5 (q [m v0,m v4,m v4,m v3,u (.bin .add l1 l0),m v5,m v2,u (.ca N.aa 0 [0] [.l 6,.l 5,.l 2,.l 1,.l 0])] [] (q [m v5,x 4 l0] [] (.reg [m v5,m v3,u (.bin .mul (.i 2) l0),u (.bin .add l2 l0),x 5 l0] [])))))
def dn:C:= .loop true [6] K.bB
def aV:C:= (.seq (.ite [m v3,m v1,u (.bin .lss l1 l0)] [] 0 .skip (.exit 2)) (.blk 3 (q [m v3,u (.bin .mul (.i 2) l0),x 4 (.i 0),x 5 l1] [] (.seq (.blk 4 K.dn) (.seq (q [m v4,m v3,u (.bin .add l1 l0),x 6 l0] [] (.ite [m v6,m v1,u (.bin .lss l1 l0)] [] 0 (.reg [m v0,m v4,m v6,m v1,m v2,u (.ca N.aa 0 [0] [.l 4,.l 3,.l 2,.l 1,.l 0])] []) .skip)) (.reg [m v3,u (.bin .mul l0 (.i 2)),x 3 l0] []))))))
def dq:C:= .loop true [4,5,6] K.aV
def aA:Fn:= { aY:=3,vars:=[0,1,2,6,7,8,9],body:=(q [x 3 (.i 20)] [] (q [m v3,x 4 (.i 0),x 5 l1] [] (.seq (.blk 0 K.cy) (q [m v0,m v4,m v1,m v2,u (.ca N.aj 0 [0] [.l 3,.l 2,.l 1,.l 0])] [] (.blk 2 K.dq))))),res:=[]}
def aq:C:= (.seq (.ite [m v5,m v1,u (.bin .gtr l1 l0),m l0,e 0 true v3,e 1 true v0,e 2 true v5,y 3 true (.ia l1 l0 2),y 4 true (.ld l0 2 true),e 5 true v0,e 6 true v5,y 7 true (.bin .sub l0 (.i 1)),y 8 true (.ia l2 l0 2),y 9 true (.ld l0 2 true),y 10 true (.cw l9 0 [] [.l 5,.l 0]),y 11 true (.bin .lss l0 (.i 0)),u (.pk (.l 12) l0 (.b false))] [] 0 .skip (.exit 2)) (.seq (.blk 3 (.reg [m v0,m v5,m v0,m v5,u (.bin .sub l0 (.i 1)),m v0,m v5,u (.bin .sub l0 (.i 1)),a 2 l2 l0,h 2 l0,m v0,m v5,a 2 l1 l0,h 2 l0,a 2 (.l 13) (.l 12),u (.st l0 l5 2 []),a 2 (.l 13) l11,u (.st l0 l3 2 [])] [])) (.reg [m v5,u (.bin .sub l0 (.i 1)),x 5 l0] [])))
def cz:C:= .loop true [] K.aq
def aD:C:= (.seq (.ite [m v4,m v2,u (.bin .lss l1 l0)] [] 0 .skip (.exit 0)) (.seq (.blk 1 (q [m v4,x 5 l0] [] (.blk 2 K.cz))) (.reg [m v4,u (.bin .add l0 (.i 1)),x 4 l0] [])))
def bg:C:= .loop true [5] K.aD
def aj:Fn:= { aY:=4,vars:=[0,1,2,3,8,9],body:=(q [m v1,u (.bin .add l0 (.i 1)),x 4 l0] [] (.blk 0 K.bg)),res:=[]}
def bS:C:= (.seq (.ite [m v5,m v6,u (.bin .lss l1 l0)] [] 0 .skip (.exit 0)) (.blk 1 (q [m v5,m v6,u (.bin .add l1 l0),u (.cv .u64 l0),u (.bin .shr l0 (.c (.t (.int .u64 (1))))),u (.cv .i64 l0),x 7 l0] [] (.ite [m v4,m v0,m v7,a 2 l1 l0,h 2 l0,m v0,m v1,a 2 l1 l0,h 2 l0,u (.cw l8 0 [] [.l 4,.l 0]),u (.bin .lss l0 (.i 0))] [] 0 (.reg [m v7,u (.bin .add l0 (.i 1)),x 5 l0] []) (.reg [m v7,x 6 l0] [])))))
def eQ:C:= .loop true [2,3,7,8,9,10,11,12,13,14,15,16,17,18,19] K.bS
def cP:C:= (.seq (.ite [m v8,m v5,u (.bin .sub l0 (.i 1)),u (.bin .lss l2 l0)] [] 0 .skip (.exit 2)) (.seq (.blk 3 (.reg [m v0,m v8,m v0,m v8,u (.bin .add l0 (.i 1)),m v0,m v8,u (.bin .add l0 (.i 1)),a 2 l2 l0,h 2 l0,m v0,m v8,a 2 l1 l0,h 2 l0,a 2 (.l 13) (.l 12),u (.st l0 l5 2 []),a 2 (.l 13) l11,u (.st l0 l3 2 [])] [])) (.reg [m v8,u (.bin .add l0 (.i 1)),x 8 l0] [])))
def eR:C:= .loop true [1,2,3,4,6,7,9,10,11,12,13,14,15,16,17,18,19] K.cP
def bT:C:= (.seq (.ite [m v9,m v10,u (.bin .lss l1 l0)] [] 0 .skip (.exit 4)) (.blk 5 (q [m v9,m v10,u (.bin .add l1 l0),u (.cv .u64 l0),u (.bin .shr l0 (.c (.t (.int .u64 (1))))),u (.cv .i64 l0),x 11 l0] [] (.ite [m v4,m v0,m v2,a 2 l1 l0,h 2 l0,m v0,m v11,a 2 l1 l0,h 2 l0,u (.cw l8 0 [] [.l 4,.l 0]),u (.bin .lss l0 (.i 0)),u (.un .not l0)] [] 0 (.reg [m v11,u (.bin .add l0 (.i 1)),x 9 l0] []) (.reg [m v11,x 10 l0] [])))))
def eS:C:= .loop true [1,3,5,6,7,8,11,12,13,14,15,16,17,18,19] K.bT
def cQ:C:= (.seq (.ite [m v12,m v9,u (.bin .gtr l1 l0)] [] 0 .skip (.exit 6)) (.seq (.blk 7 (.reg [m v0,m v12,m v0,m v12,u (.bin .sub l0 (.i 1)),m v0,m v12,u (.bin .sub l0 (.i 1)),a 2 l2 l0,h 2 l0,m v0,m v12,a 2 l1 l0,h 2 l0,a 2 (.l 13) (.l 12),u (.st l0 l5 2 []),a 2 (.l 13) l11,u (.st l0 l3 2 [])] [])) (.reg [m v12,u (.bin .sub l0 (.i 1)),x 12 l0] [])))
def eT:C:= .loop true [1,2,3,4,5,6,7,8,10,11,13,14,15,16,17,18,19] K.cQ
def bU:C:= (.seq (.ite [m v15,m v16,u (.bin .lss l1 l0)] [] 0 .skip (.exit 8)) (.blk 9 (q [m v15,m v16,u (.bin .add l1 l0),u (.cv .u64 l0),u (.bin .shr l0 (.c (.t (.int .u64 (1))))),u (.cv .i64 l0),x 18 l0] [] (.ite [m v4,m v0,m v17,m v18,u (.bin .sub l1 l0),a 2 l3 l0,h 2 l0,m v0,m v18,a 2 l1 l0,h 2 l0,u (.cw l10 0 [] [.l 4,.l 0]),u (.bin .lss l0 (.i 0)),u (.un .not l0)] [] 0 (.reg [m v18,u (.bin .add l0 (.i 1)),x 15 l0] []) (.reg [m v18,x 16 l0] [])))))
def cZ:C:= .loop true [5,6,7,8,9,10,11,12,18,19] K.bU
def aa:Fn:= { aY:=5,vars:=[0,1,2,3,4,10,11,12,13,14,15,16,17,18,19,20,21,22,23,24],body:=(.seq (.ite [m v2,m v1,u (.bin .sub l1 l0),u (.bin .eql l0 (.i 1))] [] 0 (q [m v2,x 5 l0] [] (q [m v3,x 6 l0] [] (.seq (.blk 0 K.eQ) (.seq (q [m v1,x 8 l0] [] (.blk 2 K.eR)) .ret)))) .skip) (.seq (.ite [m v3,m v2,u (.bin .sub l1 l0),u (.bin .eql l0 (.i 1))] [] 0 (q [m v1,x 9 l0] [] (q [m v2,x 10 l0] [] (.seq (.blk 4 K.eS) (.seq (q [m v2,x 12 l0] [] (.blk 6 K.eT)) .ret)))) .skip) (q [m v1,m v3,u (.bin .add l1 l0),u (.cv .u64 l0),u (.bin .shr l0 (.c (.t (.int .u64 (1))))),u (.cv .i64 l0),x 13 l0] [] (q [m v13,m v2,u (.bin .add l1 l0),x 14 l0] [] (q [x 15 (.i 0),x 16 (.i 0)] [] (.seq (.ite [m v2,m v13,u (.bin .gtr l1 l0)] [] 0 (q [m v14,m v3,u (.bin .sub l1 l0),x 15 l0] [] (.reg [m v13,x 16 l0] [])) (q [m v1,x 15 l0] [] (.reg [m v2,x 16 l0] []))) (q [m v14,u (.bin .sub l0 (.i 1)),x 17 l0] [] (.seq (.blk 8 K.cZ) (q [m v14,m v15,u (.bin .sub l1 l0),x 19 l0] [] (.seq (.ite [m v15,m v2,u (.bin .lss l1 l0),m l0,e 0 true v2,e 1 true v19,y 2 true (.bin .lss l1 l0),u (.pk l3 l0 (.b false))] [] 0 (.reg [m v0,m v15,m v2,m v19,m v4,u (.ca N.aL 0 [0] [.l 4,.l 3,.l 2,.l 1,.l 0])] []) .skip) (.seq (.ite [m v1,m v15,u (.bin .lss l1 l0),m l0,e 0 true v15,e 1 true v13,y 2 true (.bin .lss l1 l0),u (.pk l3 l0 (.b false))] [] 0 (.reg [m v0,m v1,m v15,m v13,m v4,u (.ca N.aa 0 [0] [.l 4,.l 3,.l 2,.l 1,.l 0])] []) .skip) (.ite [m v13,m v19,u (.bin .lss l1 l0),m l0,e 0 true v19,e 1 true v3,y 2 true (.bin .lss l1 l0),u (.pk l3 l0 (.b false))] [] 0 (.reg [m v0,m v13,m v19,m v3,m v4,u (.ca N.aa 0 [0] [.l 4,.l 3,.l 2,.l 1,.l 0])] []) .skip)))))))))))),res:=[]}
def cn:C:= (.seq (.ite [m v5,m v6,u (.bin .neq l1 l0)] [] 0 .skip (.exit 0)) (.blk 1 (.ite [m v5,m v6,u (.bin .gtr l1 l0)] [] 0 (q [m v0,m v2,m v5,u (.bin .sub l1 l0),m v2,m v6,m v4,u (.ca N.aB 0 [0] [.l 6,.l 3,.l 2,.l 1,.l 0])] [] (.reg [m v5,m v6,u (.bin .sub l1 l0),x 5 l0] [])) (q [m v0,m v2,m v5,u (.bin .sub l1 l0),m v2,m v6,u (.bin .add l1 l0),m v5,u (.bin .sub l1 l0),m v5,m v4,u (.ca N.aB 0 [0] [.l 10,.l 7,.l 2,.l 1,.l 0])] [] (.reg [m v6,m v5,u (.bin .sub l1 l0),x 6 l0] [])))))
def fv:C:= .loop true [1,3] K.cn
def aL:Fn:= { aY:=5,vars:=[0,1,2,3,4,10,11],body:=(q [m v2,m v1,u (.bin .sub l1 l0),x 5 l0] [] (q [m v3,m v2,u (.bin .sub l1 l0),x 6 l0] [] (.seq (.blk 0 K.fv) (.reg [m v0,m v2,m v5,u (.bin .sub l1 l0),m v2,m v5,m v4,u (.ca N.aB 0 [0] [.l 6,.l 3,.l 2,.l 1,.l 0])] [])))),res:=[]}
def cI:C:= (.seq (.ite [m v4,m v3,u (.bin .lss l1 l0)] [] 0 .skip (.exit 0)) (.seq (.blk 1 (.reg [m v0,m v1,m v4,u (.bin .add l1 l0),m v0,m v2,m v4,u (.bin .add l1 l0),m v0,m v2,m v4,u (.bin .add l1 l0),a 2 l3 l0,h 2 l0,m v0,m v1,m v4,u (.bin .add l1 l0),a 2 l3 l0,h 2 l0,a 2 (.l 19) (.l 16),u (.st l0 l7 2 []),a 2 (.l 17) (.l 14),u (.st l0 l3 2 [])] [])) (.reg [m v4,u (.bin .add l0 (.i 1)),x 4 l0] [])))
def eu:C:= .loop true [] K.cI
def aB:Fn:= { aY:=5,vars:=[0,1,2,3,10],body:=(q [x 4 (.i 0)] [] (.blk 0 K.eu)),res:=[]}
def jB:C:= (.its [u (.bin .lss v7 v6)] [] 0 .skip (.exit 0) (.seq (.blk 1 (q [a 2 v5 v7,h 2 l0,w 4 (.al [z0,.nil] []),u (.st l0 l1 2 [])] [] (.reg [f 1 v3,g l0,f 0 v4,g l0,f 1 v4,g l0,u (.ca N.aH 1 [] [.l 0]),u (.bd [z0,.nil] [(0,1,.l 3),(1,1,.l 0)]),u (.bs [.l 0] 2),u (.app l7 l0 true 2),f 1 v3,u (.st l0 l1 1 [])] [(1,7),(1,9),(3,7)]))) (.reg [u (.bin .add v7 (.i 1)),x 7 l0] [])))
def mH:C:= .loop true [0,1,4] K.jB
def cD:Fn:= { aY:=1,vars:=[0,1,2,3,5,11,12,13],body:=(q [w 1 (.bx v0 2),w 2 (.al [.nil,.nil] [])] [] (q [f 0 v1,g l0,u (.ca N.aH 1 [] [.l 0]),u (.bd [.nil,.nil] [(0,1,.l 0)]),w 3 (.al [.nil,.nil] [(1,2)]),u (.st l0 l1 2 [(1,2)])] [] (.seq (q [f 1 v1,w 5 (.ld l0 1 false),w 6 (.ln l0),x 7 (.i 0)] [] (.blk 0 K.mH)) (q [h 2 v3,u (.st v2 l0 2 [])] [] .ret)))),res:=[(2,some (2,true))]}
end Go.Ev.K
namespace Go.Ev
class eU [Lib]:Prop where
 oR:Lib.fs N.gM=some K.gM
 dh:Lib.fs N.aM=some K.aM
 oS:Lib.fs N.gN=some K.gN
 rL:Lib.fs N.i6=some K.i6
 nG:Lib.fs N.fC=some K.fC
 rM:Lib.fs N.ie=some K.ie
 rN:Lib.fs N.ig=some K.ig
 lZ:Lib.fs N.dz=some K.dz
 c7:Lib.fs N.aI=some K.aI
 c8:Lib.fs N.aJ=some K.aJ
 kS:Lib.fs N.af=some K.af
 fh:Lib.fs N.bn=some K.bn
 b8:Lib.fs N.aC=some K.aC
 ee:Lib.fs N.ax=some K.ax
 cA:Lib.fs N.aA=some K.aA
 aU:Lib.fs N.aj=some K.aj
 bC:Lib.fs N.aa=some K.aa
 dA:Lib.fs N.aL=some K.aL
 c9:Lib.fs N.aB=some K.aB
 ke:Lib.fs N.cD=some K.cD
namespace K
variable [Lib] [eU]
theorem oR:Lib.fs N.gM=some K.gM:=eU.oR
theorem dh:Lib.fs N.aM=some K.aM:=eU.dh
theorem oS:Lib.fs N.gN=some K.gN:=eU.oS
theorem rL:Lib.fs N.i6=some K.i6:=eU.rL
theorem nG:Lib.fs N.fC=some K.fC:=eU.nG
theorem rM:Lib.fs N.ie=some K.ie:=eU.rM
theorem rN:Lib.fs N.ig=some K.ig:=eU.rN
theorem lZ:Lib.fs N.dz=some K.dz:=eU.lZ
theorem c7:Lib.fs N.aI=some K.aI:=eU.c7
theorem c8:Lib.fs N.aJ=some K.aJ:=eU.c8
theorem kS:Lib.fs N.af=some K.af:=eU.kS
theorem fh:Lib.fs N.bn=some K.bn:=eU.fh
theorem b8:Lib.fs N.aC=some K.aC:=eU.b8
theorem ee:Lib.fs N.ax=some K.ax:=eU.ee
theorem cA:Lib.fs N.aA=some K.aA:=eU.cA
theorem aU:Lib.fs N.aj=some K.aj:=eU.aU
theorem bC:Lib.fs N.aa=some K.aa:=eU.bC
theorem dA:Lib.fs N.aL=some K.aL:=eU.dA
theorem c9:Lib.fs N.aB=some K.aB:=eU.c9
theorem ke:Lib.fs N.cD=some K.cD:=eU.ke
end K
end Go.Ev
namespace Go.Ev
open Go
variable [Lib] [cH] [b7] [gI] [gy] [jy] [fG] [fH] [iC] [gg] [fg] [eb] [iu] [eU]
theorem DW(x:World)(h:x.sz):∀z0 z1 z4:D,exS aS K.mH ⟨[z0,z1,.bp 1 0,.bp 3 0,z4,.t (.sl (x.whr.map Wh.e)),I x.whr.length,I 0],[.box [.t (tL x.tags),.t (.sl (x.whr.map Wh.e))],.box [.nil,.nil],Ax x.tags,.box [.ref 2 0 x.tags.length,.ref 5 0 0],.arr 2 false 0 [],.arr 2 false 0 []]⟩=
 some (.exit 0,⟨[.und,.und,.bp 1 0,.bp 3 0,.und,.t (.sl (x.whr.map Wh.e)),I x.whr.length,I x.whr.length],[.box [.t (tL x.tags),.t (.sl (x.whr.map Wh.e))],.box [.nil,.nil],Ax x.tags,.box [.ref 2 0 x.tags.length,.ref 5 0 x.whr.length],.arr 2 false 0 [],.arr 2 false 0 ((x.whr.map Wh.e).map .t)]⟩):=by
 intro z0 z1 z4
 obtain⟨tags,whr⟩:=x
 obtain⟨h1,h2,h3⟩:=h
 simp only at h1 h2 h3 ⊢
 have tk:whr.take whr.length=whr:=by simp
 refine eK (fun j=>⟨[.und,.und,.bp 1 0,.bp 3 0,.und,.t (.sl (whr.map Wh.e)),I whr.length,I j],[.box [.t (tL tags),.t (.sl (whr.map Wh.e))],.box [.nil,.nil],Ax tags,.box [.ref 2 0 tags.length,.ref 5 0 (whr.take j).length],.arr 2 false 0 [],.arr 2 false 0 (((whr.take j).map Wh.e).map .t)]⟩) whr.length rfl ?_ ?_ (by simp)
 · intro j hj
   have c:=ve (nth whr j).frm (h3 _ (az hj))
   have ex:(whr.map Wh.e)[j]?=some (nth whr j).e:=fT _ hj
   have lt:(whr.take j).length=j:=by rw[List.length_take];omega
   have tk:whr.take (j+1)=whr.take j++[nth whr j]:=ju hj
   generalize nth whr j=w at*
   generalize whr.take j=pre at*
   obtain⟨time,frm⟩:=w
   simp only[Ax]at*
   simp(disch:=omega)only[go_sem,K.jB,↓reduceIte,ex,c,lt,tk,List.map_append,List.map_cons,List.map_nil,aLv,List.length_cons,List.length_nil,reduceAdd,reduceSub]
 · simp only[Ax]
   simp(disch:=omega)only[go_sem,K.jB,↓reduceIte,tk,reduceAdd,reduceSub]
theorem CN(x:World)(h:x.sz):aS 1 N.cD [.t x.e] []=some (.agg [.ref 0 0 x.tags.length,.ref 1 0 x.whr.length],[.arr 1 false 0 ((x.tags.map (T.int .i64)).map .t),.arr 2 false 0 ((x.whr.map Wh.e).map .t)]):=by
 refine aE K.ke rfl ?_
 have loop:=DW x h
 have c:=ve x.tags h.1
 obtain⟨tags,whr⟩:=x
 obtain⟨h1,h2,h3⟩:=h
 simp only[Ax]at h1 h2 h3 loop c ⊢
 simp(disch:=omega)only[go_sem,K.cD,↓reduceIte,loop,c,reduceAdd,reduceSub]
abbrev qs(l:List World):Obj:= .arr 2 false 0 ((l.map World.e).map .t)
theorem DX(l:List World):aS 0 N.aJ [.t (.sl (l.map World.e))] []=some (.fn N.ax [.bp 0 0],[.box [.t (.sl (l.map World.e))]]):=by
 refine aE K.c8 rfl ?_
 simp(disch:=omega)only[go_sem,K.aJ,↓reduceIte,reduceAdd,reduceSub]
theorem By(l:List World)(h0:0<l.length)(hl:l.length≤1000000):aS 1 N.bn [.fn N.ax [.bp 0 0]] [.box [.t (.sl (l.map World.e))]]=some (.ref 1 0 l.length,[.box [.t (.sl (l.map World.e))],qs l]):=by
 refine zo K.fh (by decide) ?_
 show qC [3,N.ax] _ _=_
 have e:(l.map World.e).all C4=true:=by
  rw[aLx]
  intro x hx
  obtain⟨w, -,rfl⟩:=List.mem_map.1 hx
  rfl
 have ne:(l.map World.e).isEmpty=false:=by
  cases l with
  | nil=>simp at h0
  | cons=>rfl
 simp only[qC,if_true,List.getElem?_cons_zero,e,and_true,List.length_map,ne,aLt,if_false]
 rw[if_pos (by unfold lim;omega)]
 rfl
theorem mI(a b:World)(ha:a.sz)(hb:b.sz):aS 0 N.af [.t a.e,.t b.e] []=some (I (vR a.tags b.tags),[]):=by
 refine aE K.kS rfl ?_
 have c:=xd a.tags b.tags ha.1 hb.1
 obtain⟨t1,w1⟩:=a
 obtain⟨t2,w2⟩:=b
 simp only at*
 simp(disch:=omega)only[go_sem,K.af,↓reduceIte,c,reduceAdd,reduceSub]
abbrev kf(l:List World):Prop:=l.Pairwise fun x y=>lexB y.tags x.tags=false
theorem ya(a b:List Int):vR a b<0↔lexB a b=true:=by
 rw[← lB,←zJ];simp
abbrev isS(l:List World)(b i:Int)(j:D):St:=⟨[.ref 0 0 l.length,I 0,I b,.fn N.af [],I i,j],[qs l]⟩
theorem sF{p:List World}{x:World}{r:List World}{j:Nat}(h:p.length=j):nth (p++x::r) j=x:=bN (by rw[aLh (by omega),h,Nat.sub_self];rfl)
theorem N6{α:Type}{p:List α}{y x a c:α}{r:List α}{j:Nat}(h:p.length=j):((p++y::x::r).set (j+1) a).set j c=p++c::a::r:=by
 rw[List.set_append_right _ _ (by omega),h,show j+1-j=1 by omega,List.set_append_right _ _ (by omega),h,Nat.sub_self]
 rfl
def aa0(b i:Int)(l0 rest:List World)(x:World)(k:Nat)(st:St):Prop:=
 ∃p q,st=isS (p++x::(q++rest)) b i (I ((p.length:Nat):Int))∧p.length+k=l0.length∧p++q=l0∧(∀y∈q,lexB x.tags y.tags=true)
theorem I0(b i:Int)(p r:List World)(y x:World)(hx:x.sz)(hy:y.sz)(hl:(p++y::x::r).length≤1000):
 (lexB x.tags y.tags=true→dB true [] 1 (exS aS K.aq (isS (p++y::x::r) b i (I ((p.length+1:Nat):Int))))=some (isS (p++x::y::r) b i (I ((p.length:Nat):Int))))∧
 (lexB x.tags y.tags=false→exS aS K.aq (isS (p++y::x::r) b i (I ((p.length+1:Nat):Int)))=some (.exit 2,isS (p++y::x::r) b i (I ((p.length+1:Nat):Int)))):=by
 have c:=mI x y hx hy
 have cl:=ya x.tags y.tags
 obtain⟨n,hn⟩:∃n,p.length=n:=⟨_,rfl⟩
 have n1:nth (p++y::x::r) (n+1)=x:=by
  have:=sF (p:=p++[y]) (x:=x) (r:=r) (j:=n+1) (by simp[hn])
  rwa [List.append_assoc]at this
 have n0:nth (p++y::x::r) n=y:=sF hn
 have st:((((p++y::x::r).map World.e).map D.t).set (n+1) (D.t y.e)).set n (D.t x.e)=(((p++x::y::r).map World.e).map D.t):=by
  simp only[List.map_append,List.map_cons]
  exact N6 (by simp[hn])
 have ln:(p++y::x::r).length=(p++x::y::r).length:=by simp
 have lt:n+1<(p++y::x::r).length:=by simp[hn]
 rw[hn]
 have gs:∀v,((((p++y::x::r).map World.e).map D.t).set (n+1) v)[n]?=some (D.t y.e):=fun v=>by
  rw[aLi (by omega),aLn,aLn,gq (by omega),n0];rfl
 simp only[isS,qs]
 rw[← ln]
 generalize (p++x::y::r)=L2 at*
 generalize (p++y::x::r)=L at*
 generalize vR x.tags y.tags=v at*
 obtain⟨t1,w1⟩:=x
 obtain⟨t2,w2⟩:=y
 simp only at*
 constructor
 · intro h
   have v0:=cl.2 h
   simp(disch:=omega)only[go_sem,K.aq,↓reduceIte,n1,n0,c,gs,st,reduceAdd,reduceSub]
 · intro h
   have v0:¬v<0:=fun e=>by rw[cl.1 e]at h;cases h
   simp(disch:=omega)only[go_sem,K.aq,↓reduceIte,n1,n0,c,reduceAdd,reduceSub]
theorem GA{p q:List World}{x:World}(hs:kf (p++q))(hq:∀y∈q,lexB x.tags y.tags=true)(hp:∀y∈p,lexB x.tags y.tags=false):kf (p++x::q):=by
 simp only[kf,List.pairwise_append]at hs ⊢
 refine⟨hs.1,?_,fun a ha c hc=>?_⟩
 · rw[List.pairwise_cons]
   refine⟨fun y hy=>?_,hs.2.1⟩
   cases h:lexB y.tags x.tags with
   | false=>rfl
   | true=>have:=lex_trans h (hq y hy);rw[lex_irrefl]at this;cases this
 · rcases List.mem_cons.1 hc with rfl | hc
   · exact hp a ha
   · exact hs.2.2 a ha c hc
theorem I3(b i:Int)(l0 rest:List World)(x:World)(hs:kf l0)(hz:∀w∈l0++x::rest,w.sz)(hl:(l0++x::rest).length≤1000):
 ∃(l1:List World) (z:D),exS aS K.cz (isS (l0++x::rest) b i (I ((l0.length:Nat):Int)))=some (.exit 2,isS (l1++rest) b i z)∧l1.Perm (l0++[x])∧kf l1:=by
 have fin:∀p q,p++q=l0→(∀y∈q,lexB x.tags y.tags=true)→(∀y∈p,lexB x.tags y.tags=false)→(p++x::q).Perm (l0++[x])∧kf (p++x::q):=by
  intro p q e hq hp
  subst e
  refine⟨?_,GA hs hq hp⟩
  rw[List.append_assoc]
  exact List.Perm.append_left _ (List.perm_append_comm (l₁:=[x]))
 have key:=xc (gc:=true) (dead:=[]) (c:=K.aq) (vs:=[.ref 0 0 (l0++x::rest).length,I 0,I b,.fn N.af [],I i,I ((l0.length:Nat):Int)]) (H:=[qs (l0++x::rest)])
  (aa0 b i l0 rest x) l0.length (fun r=>∃(l1:List World) (z:D),r=(.exit 2,isS (l1++rest) b i z)∧l1.Perm (l0++[x])∧kf l1) ?_ ?_ ?_
 · obtain⟨r,h,l1,z,rfl,a,c⟩:=key
   exact⟨l1,z,h,a,c⟩
 · exact⟨l0,[],rfl,by omega,by simp,fun y hy=>by cases hy⟩
 · rintro j st hj ⟨p,q,rfl,h1,h2,h3⟩
   obtain⟨p',y,rfl⟩:∃p' y,p=p'++[y]:=⟨p.dropLast,p.getLast (fun e=>by subst e;simp at h1;omega),(List.dropLast_concat_getLast _).symm⟩
   subst h2
   have hz':∀w∈p'++[y]++q++x::rest,w.sz:=hz
   have e1:p'++[y]++x::(q++rest)=p'++y::x::(q++rest):=by simp
   have e2:(p'++[y]).length=p'.length+1:=by simp
   rw[e1,e2]
   have st:=I0 b i p' (q++rest) y x (hz' x (by simp)) (hz' y (by simp)) (by simp at hl ⊢;omega)
   cases hc:lexB x.tags y.tags with
   | true=>
     refine .inl ⟨_,st.1 hc,p',y::q,by simp[isS],by simp at h1 ⊢;omega,by simp,fun w hw=>?_⟩
     rcases List.mem_cons.1 hw with rfl | hw
     · exact hc
     · exact h3 w hw
   | false=>
     refine .inr ⟨_,st.2 hc,by simp,p'++[y]++x::q,I ((p'.length+1:Nat):Int),by simp[isS],?_⟩
     refine fin (p'++[y]) q rfl h3 fun w hw=>?_
     rcases List.mem_append.1 hw with hw | hw
     · cases h:lexB x.tags w.tags with
       | false=>rfl
       | true=>
         have hwy:lexB y.tags w.tags=false:=by
          simp only[kf,List.pairwise_append]at hs
          exact hs.1.2.2 w hw y (by simp)
         rcases jA y.tags x.tags with a | a | a
         · rw[lex_trans a h]at hwy;cases hwy
         · rw[a,h]at hwy;cases hwy
         · rw[a]at hc;cases hc
     · rw[List.mem_singleton.1 hw];exact hc
 · rintro st ⟨p,q,rfl,h1,h2,h3⟩
   have p0:p=[]:=List.eq_nil_of_length_eq_zero (by omega)
   subst p0
   simp only[List.nil_append]at h2
   subst h2
   refine⟨(.exit 2,isS (x::(q++rest)) b i (I 0)),?_,by simp,x::q,I 0,rfl,fin [] q rfl h3 (fun y hy=>by cases hy)⟩
   simp only[isS,qs,List.nil_append,List.length_nil]
   simp(disch:=omega)only[go_sem,K.aq,↓reduceIte,reduceAdd,reduceSub]
def YW(l:List World)(k:Nat)(st:St):Prop:=
 ∃l':List World,st=isS l' l.length (1+(k:Int)) .und∧l'.Perm l∧kf (l'.take (1+k))
theorem GB(l:List World)(hz:∀w∈l,w.sz)(hl:l.length≤1000){k:Nat}(hk:k<l.length-1){st:St}(hP:YW l k st):
 ∃st',dB true [5] st.H.length (exS aS K.aD st)=some st'∧YW l (k+1) st':=by
 obtain⟨l',rfl,pm,so⟩:=hP
 have ln:=pm.length_eq
 have sp:l'=l'.take (1+k)++nth l' (1+k)::l'.drop (1+k+1):=by
  conv=>lhs;rw[← List.take_append_drop (1+k) l']
  rw[List.drop_eq_getElem_cons (by omega),bN (aLc (by omega))]
 have l0:(l'.take (1+k)).length=1+k:=by rw[List.length_take];omega
 obtain⟨l1,z,h,p1,s1⟩:=I3 l.length (1+(k:Int)) (l'.take (1+k)) (l'.drop (1+k+1)) (nth l' (1+k)) so (fun w hw=>hz w (pm.mem_iff.1 (by rw[sp];exact hw))) (by rw[← sp];omega)
 rw[← sp,l0]at h
 have l1n:l1.length=1+k+1:=by rw[p1.length_eq,aLv,l0];rfl
 have tl:(l1++l'.drop (1+k+1)).length=l'.length:=by rw[aLv,l1n,List.length_drop];omega
 refine⟨isS (l1++l'.drop (1+k+1)) l.length (1+((k+1:Nat):Int)) .und,?_,_,rfl,?_,?_⟩
 · generalize (l1++l'.drop (1+k+1))=L at*
   clear sp
   simp only[isS,qs]at*
   have e:((1+k:Nat):Int)=1+(k:Int):=by omega
   rw[e]at h
   have e2:(1:Int)+((k+1:Nat):Int)=1+(k:Int)+1:=by omega
   rw[e2,tl]
   rw[tl]at h
   have lt:(1:Int)+k<l.length:=by omega
   simp(disch:=omega)only[go_sem,K.aD,↓reduceIte,h,reduceAdd,reduceSub]
 · have:(l1++l'.drop (1+k+1)).Perm l':=by
    conv=>rhs;rw[sp]
    rw[show l'.take (1+k)++nth l' (1+k)::l'.drop (1+k+1)=(l'.take (1+k)++[nth l' (1+k)])++l'.drop (1+k+1)by simp]
    exact List.Perm.append_right _ p1
   exact this.trans pm
 · rw[show 1+(k+1)=l1.length by omega,List.take_left']
   · exact s1
   · rfl
theorem GC(l:List World)(hz:∀w∈l,w.sz)(hl:l.length≤1000):
 ∃l',aS 0 N.aj [.ref 0 0 l.length,I 0,I l.length,.fn N.af []] [qs l]=some (.tup [],[qs l'])∧l'.Perm l∧kf l':=by
 by_cases h0:l.length=0
 · have e:l=[]:=List.eq_nil_of_length_eq_zero h0
   subst e
   refine⟨[],?_,List.Perm.refl _,List.Pairwise.nil⟩
   refine aE K.aU rfl ?_
   have lp:∀z5,exS aS K.bg ⟨[.ref 0 0 0,I 0,I 0,.fn N.af [],I 1,z5],[.arr 2 false 0 []]⟩=some (.exit 0,⟨[.ref 0 0 0,I 0,I 0,.fn N.af [],I 1,.und],[.arr 2 false 0 []]⟩):=by
    intro z5
    refine iX (bE ?_ (by simp))
    simp(disch:=omega)only[go_sem,K.aD,↓reduceIte,reduceAdd,reduceSub]
   simp only[qs,List.map_nil,List.length_nil]
   simp(disch:=omega)only[go_sem,K.aj,↓reduceIte,lp,reduceAdd,reduceSub]
 · have key:=fun z5:D=>xc (gc:=true) (dead:=[5]) (c:=K.aD) (vs:=[.ref 0 0 l.length,I 0,I l.length,.fn N.af [],I 1,z5]) (H:=[qs l])
    (YW l) (l.length-1) (fun r=>∃l':List World,r=(.exit 0,isS l' l.length l.length .und)∧l'.Perm l∧kf l') ⟨l,rfl,List.Perm.refl _,by
     match l with
     | []=>exact List.Pairwise.nil
     | x::r=>simp⟩ (fun j st hj hP=> .inl (GB l hz hl hj hP)) (by
     rintro st ⟨l',rfl,pm,so⟩
     have ln:=pm.length_eq
     have e:(1:Int)+((l.length-1:Nat):Int)=l.length:=by omega
     rw[e]
     rw[List.take_of_length_le (by omega)]at so
     refine⟨(.exit 0,isS l' l.length l.length .und),?_,by simp,l',rfl,pm,so⟩
     simp only[isS,qs]
     simp(disch:=omega)only[go_sem,K.aD,↓reduceIte,reduceAdd,reduceSub]
     )
   obtain⟨r,hr,l',rfl,pm,so⟩:=key .und
   refine⟨l',?_,pm,so⟩
   refine aE K.aU rfl ?_
   have ln:=pm.length_eq
   have hr:exS aS K.bg _=_:=hr
   simp only[isS,qs,ln]at hr ⊢
   simp(disch:=omega)only[go_sem,K.aj,↓reduceIte,hr,reduceAdd,reduceSub]
theorem GD(l:List World)(hz:∀w∈l,w.sz)(hl:l.length<20):
 ∃l',aS 0 N.aA [.ref 0 0 l.length,I l.length,.fn N.af []] [qs l]=some (.tup [],[qs l'])∧l'.Perm l∧kf l':=by
 obtain⟨l',h,pm,so⟩:=GC l hz (by omega)
 refine⟨l',?_,pm,so⟩
 refine aE K.cA rfl ?_
 have ln:=pm.length_eq
 have e1:∀z6:D,exS aS K.cy ⟨[.ref 0 0 l.length,I l.length,.fn N.af [],I 20,I 0,I 20,z6],[qs l]⟩=some (.exit 0,⟨[.ref 0 0 l.length,I l.length,.fn N.af [],I 20,I 0,I 20,.und],[qs l]⟩):=by
  intro z6
  refine iX (bE ?_ (by simp))
  simp only[qs]
  simp(disch:=omega)only[go_sem,K.bk,↓reduceIte,reduceAdd,reduceSub]
 have e2:∀z4 z5 z6:D,exS aS K.dq ⟨[.ref 0 0 l.length,I l.length,.fn N.af [],I 20,z4,z5,z6],[qs l']⟩=some (.exit 2,⟨[.ref 0 0 l.length,I l.length,.fn N.af [],I 20,.und,.und,.und],[qs l']⟩):=by
  intro z4 z5 z6
  refine iX (bE ?_ (by simp))
  simp only[qs]
  simp(disch:=omega)only[go_sem,K.aV,↓reduceIte,reduceAdd,reduceSub]
 simp only[qs]at*
 simp(disch:=omega)only[go_sem,K.aA,↓reduceIte,e1,e2,h,reduceAdd,reduceSub]
abbrev wD(l:List World):List D:=(l.map World.e).map .t
theorem swp{p1 mid r:List World}{u v:World}{i k:Nat}(hi:p1.length=i)(hk:i+1+mid.length=k):
 nth (p1++u::(mid++v::r)) i=u∧nth (p1++u::(mid++v::r)) k=v∧i<(p1++u::(mid++v::r)).length∧k<(p1++u::(mid++v::r)).length∧
 (∀x:D,((wD (p1++u::(mid++v::r))).set i x)[k]?=some (D.t v.e))∧(∀x:D,((wD (p1++u::(mid++v::r))).set k x)[i]?=some (D.t u.e))∧
 ((wD (p1++u::(mid++v::r))).set i (D.t v.e)).set k (D.t u.e)=wD (p1++v::(mid++u::r))∧((wD (p1++u::(mid++v::r))).set k (D.t u.e)).set i (D.t v.e)=wD (p1++v::(mid++u::r))∧
 (p1++v::(mid++u::r)).length=(p1++u::(mid++v::r)).length:=by
 have e2:p1++u::(mid++v::r)=(p1++u::mid)++v::r:=by simp
 have l2:(p1++u::mid).length=k:=by simp;omega
 have n1:nth (p1++u::(mid++v::r)) i=u:=sF hi
 have n2:nth (p1++u::(mid++v::r)) k=v:=by rw[e2];exact sF l2
 have li:i<(p1++u::(mid++v::r)).length:=by simp;omega
 have lk:k<(p1++u::(mid++v::r)).length:=by simp;omega
 have ss:((wD (p1++u::(mid++v::r))).set i (D.t v.e)).set k (D.t u.e)=wD (p1++v::(mid++u::r)):=by
  simp only[wD,List.map_append,List.map_cons]
  rw[List.set_append_right _ _ (by simp;omega),show i-(List.map D.t (List.map World.e p1)).length=0 by simp;omega,List.set_cons_zero]
  rw[List.set_append_right _ _ (by simp;omega),show k-(List.map D.t (List.map World.e p1)).length=mid.length+1 by simp;omega,List.set_cons_succ,List.set_append_right _ _ (by simp),show mid.length-(List.map D.t (List.map World.e mid)).length=0 by simp,List.set_cons_zero]
 refine⟨n1,n2,li,lk,fun x=>?_,fun x=>?_,ss,?_,by simp⟩
 · rw[aLi (by omega),aLn,aLn,gq lk,n2];rfl
 · rw[aLi (by omega),aLn,aLn,gq li,n1];rfl
 · rw[List.set_comm _ _ (by omega)];exact ss
abbrev isA(l:List World)(a b i:Int)(j:D):St:=⟨[.ref 0 0 l.length,I a,I b,.fn N.af [],I i,j],[.arr 2 false 0 (wD l)]⟩
theorem GF(a:Nat)(b i:Int)(p r:List World)(y x:World)(hx:x.sz)(hy:y.sz)(ha:a≤p.length)(hl:(p++y::x::r).length≤1000):
 (lexB x.tags y.tags=true→dB true [] 1 (exS aS K.aq (isA (p++y::x::r) a b i (I ((p.length+1:Nat):Int))))=some (isA (p++x::y::r) a b i (I ((p.length:Nat):Int))))∧
 (lexB x.tags y.tags=false→exS aS K.aq (isA (p++y::x::r) a b i (I ((p.length+1:Nat):Int)))=some (.exit 2,isA (p++y::x::r) a b i (I ((p.length+1:Nat):Int)))):=by
 have c:=mI x y hx hy
 have cl:=ya x.tags y.tags
 obtain⟨n0,n1,l0,l1,g1,g2,s1,s2,ln⟩:=swp (p1:=p) (mid:=[]) (r:=r) (u:=y) (v:=x) rfl rfl
 simp only[List.nil_append,List.length_nil,Nat.add_zero]at*
 generalize hn:p.length=n at*
 have g2':∀v:D,((List.map D.t (List.map World.e (p++y::x::r))).set (n+1) v)[n]?=some (D.t y.e):=g2
 have s2':((List.map D.t (List.map World.e (p++y::x::r))).set (n+1) (D.t y.e)).set n (D.t x.e)=List.map D.t (List.map World.e (p++x::y::r)):=s2
 clear g1 g2 s1 s2
 simp only[isA,wD]at*
 rw[ln]
 generalize (p++x::y::r)=L2 at*
 generalize (p++y::x::r)=L at*
 generalize vR x.tags y.tags=v at*
 have ga:(a:Int)<(n:Int)+1:=by omega
 obtain⟨t1,w1⟩:=x
 obtain⟨t2,w2⟩:=y
 simp only at*
 constructor
 · intro h
   have v0:=cl.2 h
   simp(disch:=omega)only[go_sem,K.aq,↓reduceIte,n1,n0,c,g2',s2',ga,reduceAdd,reduceSub]
 · intro h
   have v0:¬v<0:=fun e=>by rw[cl.1 e]at h;cases h
   simp(disch:=omega)only[go_sem,K.aq,↓reduceIte,n1,n0,c,ga,reduceAdd,reduceSub]
def aa1(a:Nat)(b i:Int)(X l0 rest:List World)(x:World)(k:Nat)(st:St):Prop:=
 ∃p q,st=isA (X++p++x::(q++rest)) a b i (I ((a+p.length:Nat):Int))∧p.length+k=l0.length∧p++q=l0∧(∀y∈q,lexB x.tags y.tags=true)
theorem GG(b i:Int)(X l0 rest:List World)(x:World)(hs:kf l0)(hz:∀w∈X++l0++x::rest,w.sz)(hl:(X++l0++x::rest).length≤1000):
 ∃(l1:List World) (z:D),exS aS K.cz (isA (X++l0++x::rest) X.length b i (I ((X.length+l0.length:Nat):Int)))=some (.exit 2,isA (X++l1++rest) X.length b i z)∧l1.Perm (l0++[x])∧kf l1:=by
 have fin:∀p q,p++q=l0→(∀y∈q,lexB x.tags y.tags=true)→(∀y∈p,lexB x.tags y.tags=false)→(p++x::q).Perm (l0++[x])∧kf (p++x::q):=by
  intro p q e hq hp
  subst e
  refine⟨?_,GA hs hq hp⟩
  rw[List.append_assoc]
  exact List.Perm.append_left _ (List.perm_append_comm (l₁:=[x]))
 have key:=xc (gc:=true) (dead:=[]) (c:=K.aq) (vs:=[.ref 0 0 (X++l0++x::rest).length,I X.length,I b,.fn N.af [],I i,I ((X.length+l0.length:Nat):Int)]) (H:=[.arr 2 false 0 (wD (X++l0++x::rest))])
  (aa1 X.length b i X l0 rest x) l0.length (fun r=>∃(l1:List World) (z:D),r=(.exit 2,isA (X++l1++rest) X.length b i z)∧l1.Perm (l0++[x])∧kf l1) ?_ ?_ ?_
 · obtain⟨r,h,l1,z,rfl,a,c⟩:=key
   exact⟨l1,z,h,a,c⟩
 · exact⟨l0,[],rfl,by omega,by simp,fun y hy=>by cases hy⟩
 · rintro j st hj ⟨p,q,rfl,h1,h2,h3⟩
   obtain⟨p',y,rfl⟩:∃p' y,p=p'++[y]:=⟨p.dropLast,p.getLast (fun e=>by subst e;simp at h1;omega),(List.dropLast_concat_getLast _).symm⟩
   subst h2
   have hz':∀w∈X++(p'++[y]++q)++x::rest,w.sz:=hz
   have e1:X++(p'++[y])++x::(q++rest)=(X++p')++y::x::(q++rest):=by simp
   have e2:X.length+(p'++[y]).length=(X++p').length+1:=by simp;omega
   rw[e1,e2]
   have st:=GF X.length b i (X++p') (q++rest) y x (hz' x (by simp)) (hz' y (by simp)) (by simp) (by simp at hl ⊢;omega)
   cases hc:lexB x.tags y.tags with
   | true=>
     refine .inl ⟨_,st.1 hc,p',y::q,by simp[isA],by simp at h1 ⊢;omega,by simp,fun w hw=>?_⟩
     rcases List.mem_cons.1 hw with rfl | hw
     · exact hc
     · exact h3 w hw
   | false=>
     refine .inr ⟨_,st.2 hc,by simp,p'++[y]++x::q,_,by simp[isA];rfl,?_⟩
     refine fin (p'++[y]) q rfl h3 fun w hw=>?_
     rcases List.mem_append.1 hw with hw | hw
     · cases h:lexB x.tags w.tags with
       | false=>rfl
       | true=>
         have hwy:lexB y.tags w.tags=false:=by
          simp only[kf,List.pairwise_append]at hs
          exact hs.1.2.2 w hw y (by simp)
         rcases jA y.tags x.tags with a | a | a
         · rw[lex_trans a h]at hwy;cases hwy
         · rw[a,h]at hwy;cases hwy
         · rw[a]at hc;cases hc
     · rw[List.mem_singleton.1 hw];exact hc
 · rintro st ⟨p,q,rfl,h1,h2,h3⟩
   have p0:p=[]:=List.eq_nil_of_length_eq_zero (by omega)
   subst p0
   simp only[List.nil_append]at h2
   subst h2
   refine⟨(.exit 2,isA (X++(x::q)++rest) X.length b i (I X.length)),?_,by simp,x::q,I X.length,rfl,fin [] q rfl h3 (fun y hy=>by cases hy)⟩
   have e:X++[]++x::(q++rest)=X++(x::q)++rest:=by simp
   rw[e]
   simp only[isA,wD,List.length_nil,Nat.add_zero]
   generalize X++(x::q)++rest=L
   simp(disch:=omega)only[go_sem,K.aq,↓reduceIte,reduceAdd,reduceSub]
theorem DY(X l Y:List World)(hz:∀w∈X++l++Y,w.sz)(hl:(X++l++Y).length≤1000):
 ∃l',aS 0 N.aj [.ref 0 0 (X++l++Y).length,I X.length,I ((X.length+l.length:Nat):Int),.fn N.af []] [.arr 2 false 0 (wD (X++l++Y))]=some (.tup [],[.arr 2 false 0 (wD (X++l'++Y))])∧l'.Perm l∧kf l':=by
 have hlen:X.length+l.length+Y.length≤1000:=by simp at hl;omega
 by_cases h0:l.length≤1
 · refine⟨l,?_,List.Perm.refl _,by
    match l,h0 with
    | [],_=>exact List.Pairwise.nil
    | [x],_=>simp⟩
   refine aE K.aU rfl ?_
   have lp:∀z5,exS aS K.bg ⟨[.ref 0 0 (X++l++Y).length,I X.length,I ((X.length+l.length:Nat):Int),.fn N.af [],I ((X.length:Int)+1),z5],[.arr 2 false 0 (wD (X++l++Y))]⟩=some (.exit 0,⟨[.ref 0 0 (X++l++Y).length,I X.length,I ((X.length+l.length:Nat):Int),.fn N.af [],I ((X.length:Int)+1),.und],[.arr 2 false 0 (wD (X++l++Y))]⟩):=by
    intro z5
    refine iX (bE ?_ (by simp))
    have ge:¬(X.length:Int)+1<((X.length+l.length:Nat):Int):=by omega
    generalize ((X.length+l.length:Nat):Int)=bb at*
    generalize X++l++Y=L at*
    simp only[wD]
    simp(disch:=omega)only[go_sem,K.aD,↓reduceIte,ge,reduceAdd,reduceSub]
   have wk:IntKind.i64.wrap ((X.length:Int)+1)=(X.length:Int)+1:=bz (by omega) (by omega)
   generalize ((X.length+l.length:Nat):Int)=bb at*
   generalize X++l++Y=L at*
   simp only[wD]at*
   simp(disch:=omega)only[go_sem,K.aj,↓reduceIte,lp,wk,reduceAdd,reduceSub]
 · have key:=fun z5:D=>xc (gc:=true) (dead:=[5]) (c:=K.aD) (vs:=[.ref 0 0 (X++l++Y).length,I X.length,I ((X.length+l.length:Nat):Int),.fn N.af [],I ((X.length:Int)+1),z5]) (H:=[.arr 2 false 0 (wD (X++l++Y))])
    (fun k st=>∃l':List World,st=isA (X++l'++Y) X.length ((X.length+l.length:Nat):Int) ((X.length+1+k:Nat):Int) .und∧l'.Perm l∧kf (l'.take (1+k))) (l.length-1)
    (fun r=>∃l':List World,r=(.exit 0,isA (X++l'++Y) X.length ((X.length+l.length:Nat):Int) ((X.length+l.length:Nat):Int) .und)∧l'.Perm l∧kf l') ⟨l,rfl,List.Perm.refl _,by
     match l with
     | []=>exact List.Pairwise.nil
     | x::r=>simp⟩ (by
     rintro k st hk ⟨l',rfl,pm,so⟩
     left
     have ln:=pm.length_eq
     have sp:l'=l'.take (1+k)++nth l' (1+k)::l'.drop (1+k+1):=by
      conv=>lhs;rw[← List.take_append_drop (1+k) l']
      rw[List.drop_eq_getElem_cons (by omega),bN (aLc (by omega))]
     have l0:(l'.take (1+k)).length=1+k:=by rw[List.length_take];omega
     have e0:X++l'++Y=X++l'.take (1+k)++nth l' (1+k)::(l'.drop (1+k+1)++Y):=by
      conv=>lhs;rw[sp]
      simp
     have pmz:∀w∈X++l'++Y,w.sz:=fun w hw=>hz w (by
      simp only[List.mem_append]at hw ⊢
      rcases hw with(a | a) | a
      · exact .inl (.inl a)
      · exact .inl (.inr (pm.mem_iff.1 a))
      · exact .inr a)
     obtain⟨l1,z,h,p1,s1⟩:=GG ((X.length+l.length:Nat):Int) ((X.length+1+k:Nat):Int) X (l'.take (1+k)) (l'.drop (1+k+1)++Y) (nth l' (1+k)) so (fun w hw=>pmz w (by rw[e0];exact hw)) (by rw[← e0];simp;omega)
     rw[← e0,l0]at h
     have l1n:l1.length=1+k+1:=by rw[p1.length_eq,aLv,l0];rfl
     refine⟨isA (X++(l1++l'.drop (1+k+1))++Y) X.length ((X.length+l.length:Nat):Int) ((X.length+1+(k+1):Nat):Int) .und,?_,_,rfl,?_,?_⟩
     · have e3:X++l1++(l'.drop (1+k+1)++Y)=X++(l1++l'.drop (1+k+1))++Y:=by simp
       rw[e3]at h
       have tl:(X++(l1++l'.drop (1+k+1))++Y).length=(X++l'++Y).length:=by simp;omega
       generalize X++(l1++l'.drop (1+k+1))++Y=L2 at*
       generalize hL:X++l'++Y=L at*
       clear e0 sp hL
       have e4:((X.length+(1+k):Nat):Int)=((X.length+1+k:Nat):Int):=by omega
       have e5:((X.length+1+(k+1):Nat):Int)=((X.length+1+k:Nat):Int)+1:=by omega
       have lt:((X.length+1+k:Nat):Int)<((X.length+l.length:Nat):Int):=by omega
       have wk:IntKind.i64.wrap (((X.length+1+k:Nat):Int)+1)=((X.length+1+k:Nat):Int)+1:=bz (by omega) (by omega)
       rw[e4]at h
       rw[e5]
       simp only[isA,wD]at*
       rw[tl]at h ⊢
       generalize ((X.length+1+k:Nat):Int)=ii at*
       generalize ((X.length+l.length:Nat):Int)=bb at*
       simp(disch:=omega)only[go_sem,K.aD,↓reduceIte,h,lt,wk,reduceAdd,reduceSub]
     · have:(l1++l'.drop (1+k+1)).Perm l':=by
        conv=>rhs;rw[sp]
        rw[show l'.take (1+k)++nth l' (1+k)::l'.drop (1+k+1)=(l'.take (1+k)++[nth l' (1+k)])++l'.drop (1+k+1)by simp]
        exact List.Perm.append_right _ p1
       exact this.trans pm
     · rw[show 1+(k+1)=l1.length by omega,List.take_left']
       · exact s1
       · rfl) (by
     rintro st ⟨l',rfl,pm,so⟩
     have ln:=pm.length_eq
     have e:X.length+1+(l.length-1)=X.length+l.length:=by omega
     rw[e]
     rw[List.take_of_length_le (by omega)]at so
     refine⟨(.exit 0,isA (X++l'++Y) X.length ((X.length+l.length:Nat):Int) ((X.length+l.length:Nat):Int) .und),?_,by simp,l',rfl,pm,so⟩
     generalize ((X.length+l.length:Nat):Int)=bb
     simp only[isA,wD]
     simp(disch:=omega)only[go_sem,K.aD,↓reduceIte,reduceAdd,reduceSub]
     )
   obtain⟨r,hr,l',rfl,pm,so⟩:=key .und
   refine⟨l',?_,pm,so⟩
   refine aE K.aU rfl ?_
   have ln:=pm.length_eq
   have hr:exS aS K.bg _=_:=hr
   have tl:(X++l'++Y).length=(X++l++Y).length:=by simp;omega
   have wk:IntKind.i64.wrap ((X.length:Int)+1)=(X.length:Int)+1:=bz (by omega) (by omega)
   generalize X++l'++Y=L2 at*
   generalize X++l++Y=L at*
   generalize ((X.length+l.length:Nat):Int)=bb at*
   simp only[isA,wD,tl]at hr ⊢
   simp(disch:=omega)only[go_sem,K.aj,↓reduceIte,hr,wk,reduceAdd,reduceSub]
theorem yb{gc:Bool}{dead:List Nat}{c:C}{vs:List D}{H:ah}(P:Nat→St→Prop)(n:Nat)(Q:Ex×St→Prop)(h0:P n ⟨iU dead vs,H⟩)
 (hs:∀n st,P n st→(∃st' m,m<n∧dB gc dead st.H.length (exS aS c st)=some st'∧P m st')∨∃q,exS aS c st=some q∧q.1≠ .normal∧Q q):∃q,exS aS (.loop gc dead c) ⟨vs,H⟩=some q∧Q q:=by
 have key:∀(n:Nat) (st:St),P n st→∃q,kV gc dead (exS aS c) st=some q∧Q q:=by
  intro n
  induction n using Nat.strongRecOn with
  | ind n ih=>
    intro st hp
    rcases hs n st hp with⟨st',m,hm,h1,h2⟩ | ⟨q,h1,h2,h3⟩
    · obtain⟨q,h3,h4⟩:=ih m hm st' h2
      exact⟨q,cM h1 h3,h4⟩
    · exact⟨q,bE h1 h2,h3⟩
 exact key n _ h0
theorem I4{l:List World}{j:Nat}(h:j<l.length):l.drop j=nth l j::l.drop (j+1):=by
 rw[List.drop_eq_getElem_cons h,bN (aLc h)]
theorem zN(X P M Q Y:List World)(e:Q.length=P.length)(hl:(X++P++M++Q++Y).length≤1000):
 aS 0 N.aB [.ref 0 0 (X++P++M++Q++Y).length,I X.length,I ((X.length+P.length+M.length:Nat):Int),I P.length,.fn N.af []] [.arr 2 false 0 (wD (X++P++M++Q++Y))]=some (.tup [],[.arr 2 false 0 (wD (X++Q++M++P++Y))]):=by
 refine aE K.c9 rfl ?_
 have hlen:X.length+P.length+M.length+Q.length+Y.length≤1000:=by simp at hl;omega
 have key:exS aS K.eu ⟨[.ref 0 0 (X++P++M++Q++Y).length,I X.length,I ((X.length+P.length+M.length:Nat):Int),I P.length,I 0],[.arr 2 false 0 (wD (X++P++M++Q++Y))]⟩=
  some (.exit 0,⟨[.ref 0 0 (X++P++M++Q++Y).length,I X.length,I ((X.length+P.length+M.length:Nat):Int),I P.length,I P.length],[.arr 2 false 0 (wD (X++Q++M++P++Y))]⟩):=by
  have fin:X++(Q.take P.length++P.drop P.length)++M++(P.take P.length++Q.drop P.length)++Y=X++Q++M++P++Y:=by
   rw[List.take_length,List.drop_length,List.take_of_length_le (by omega),List.drop_of_length_le (by omega)];simp
  rw[← fin]
  refine eK (fun j=>⟨[.ref 0 0 (X++P++M++Q++Y).length,I X.length,I ((X.length+P.length+M.length:Nat):Int),I P.length,I j],[.arr 2 false 0 (wD (X++(Q.take j++P.drop j)++M++(P.take j++Q.drop j)++Y))]⟩) P.length (by simp only[List.take_zero,List.drop_zero,List.nil_append];rfl) ?_ ?_ (by simp)
  · intro j hj
    have s1:X++(Q.take j++P.drop j)++M++(P.take j++Q.drop j)++Y=(X++Q.take j)++nth P j::((P.drop (j+1)++M++P.take j)++nth Q j::(Q.drop (j+1)++Y)):=by
     rw[I4 hj,I4 (l:=Q) (by omega)];simp
    have s2:X++(Q.take (j+1)++P.drop (j+1))++M++(P.take (j+1)++Q.drop (j+1))++Y=(X++Q.take j)++nth Q j::((P.drop (j+1)++M++P.take j)++nth P j::(Q.drop (j+1)++Y)):=by
     rw[ju hj,ju (l:=Q) (by omega)];simp
    obtain⟨n0,n1,l0,l1,g1,g2,t1,t2,ln⟩:=swp (p1:=X++Q.take j) (mid:=P.drop (j+1)++M++P.take j) (r:=Q.drop (j+1)++Y) (u:=nth P j) (v:=nth Q j) (i:=X.length+j) (k:=X.length+P.length+M.length+j) (by rw[aLv,List.length_take];omega) (by simp only[aLv,List.length_drop,List.length_take];omega)
    rw[s1,s2]
    have tl:((X++Q.take j)++nth P j::((P.drop (j+1)++M++P.take j)++nth Q j::(Q.drop (j+1)++Y))).length=(X++P++M++Q++Y).length:=by
     rw[← s1];simp;omega
    rw[← tl]
    have w1:IntKind.i64.wrap ((X.length:Int)+j)=((X.length+j:Nat):Int):=by
     rw[show(X.length:Int)+j=((X.length+j:Nat):Int)by omega];exact bz (by omega) (by omega)
    have w2:IntKind.i64.wrap (((X.length+P.length+M.length:Nat):Int)+j)=((X.length+P.length+M.length+j:Nat):Int):=by
     rw[show((X.length+P.length+M.length:Nat):Int)+j=((X.length+P.length+M.length+j:Nat):Int)by omega];exact bz (by omega) (by omega)
    have lj:(j:Int)<P.length:=by omega
    have wj:IntKind.i64.wrap ((j:Int)+1)=(j:Int)+1:=bz (by omega) (by omega)
    have ej:((j+1:Nat):Int)=(j:Int)+1:=by omega
    rw[ej]
    have g1':∀x:D,((List.map D.t (List.map World.e ((X++Q.take j)++nth P j::((P.drop (j+1)++M++P.take j)++nth Q j::(Q.drop (j+1)++Y))))).set (X.length+j) x)[X.length+P.length+M.length+j]?=some (D.t (nth Q j).e):=g1
    have t1':((List.map D.t (List.map World.e ((X++Q.take j)++nth P j::((P.drop (j+1)++M++P.take j)++nth Q j::(Q.drop (j+1)++Y))))).set (X.length+j) (D.t (nth Q j).e)).set (X.length+P.length+M.length+j) (D.t (nth P j).e)=List.map D.t (List.map World.e ((X++Q.take j)++nth Q j::((P.drop (j+1)++M++P.take j)++nth P j::(Q.drop (j+1)++Y)))):=t1
    clear g1 g2 t1 t2 s1 s2
    simp only[wD]at*
    generalize ((X++Q.take j)++nth Q j::((P.drop (j+1)++M++P.take j)++nth P j::(Q.drop (j+1)++Y)))=L2 at*
    generalize ((X++Q.take j)++nth P j::((P.drop (j+1)++M++P.take j)++nth Q j::(Q.drop (j+1)++Y)))=L at*
    generalize X.length+P.length+M.length+j=kk at*
    generalize X.length+j=ii at*
    generalize nth P j=u at*
    generalize nth Q j=v at*
    generalize ((X.length+P.length+M.length:Nat):Int)=bb at*
    generalize (X.length:Int)=xx at*
    generalize (P.length:Int)=pp at*
    obtain⟨a1,b1⟩:=u
    obtain⟨a2,b2⟩:=v
    simp(disch:=omega)only[go_sem,K.cI,↓reduceIte,w1,w2,lj,wj,n0,n1,g1',t1',reduceAdd,reduceSub]
  · rw[fin]
    have tl:(X++Q++M++P++Y).length=(X++P++M++Q++Y).length:=by simp;omega
    rw[← tl]
    have ge:¬(P.length:Int)<P.length:=by omega
    generalize X++Q++M++P++Y=L at*
    simp only[wD]
    generalize ((X.length+P.length+M.length:Nat):Int)=bb at*
    simp(disch:=omega)only[go_sem,K.cI,↓reduceIte,reduceAdd,reduceSub]
 generalize X++Q++M++P++Y=L2 at*
 generalize X++P++M++Q++Y=L at*
 generalize ((X.length+P.length+M.length:Nat):Int)=bb at*
 simp only[wD]at*
 simp(disch:=omega)only[go_sem,K.aB,↓reduceIte,key,reduceAdd,reduceSub]
theorem yc(X P M Q Y L L2:List World)(a b n:Int)(hL:L=X++P++M++Q++Y)(hL2:L2=X++Q++M++P++Y)(e:Q.length=P.length)(hl:L.length≤1000)(ha:a=X.length)(hb:b=(X.length+P.length+M.length:Nat))(hn:n=P.length):
 aS 0 N.aB [.ref 0 0 L.length,I a,I b,I n,.fn N.af []] [.arr 2 false 0 (List.map D.t (List.map World.e L))]=some (.tup [],[.arr 2 false 0 (List.map D.t (List.map World.e L2))]):=by
 subst hL hL2 ha hb hn
 exact zN X P M Q Y e hl
theorem GH(X U V Y:List World)(hu:U≠[])(hv:V≠[])(hl:(X++U++V++Y).length≤1000):
 aS 0 N.aL [.ref 0 0 (X++U++V++Y).length,I X.length,I ((X.length+U.length:Nat):Int),I ((X.length+U.length+V.length:Nat):Int),.fn N.af []] [.arr 2 false 0 (wD (X++U++V++Y))]=some (.tup [],[.arr 2 false 0 (wD (X++V++U++Y))]):=by
 refine aE K.dA rfl ?_
 have hlen:X.length+U.length+V.length+Y.length≤1000:=by simp at hl;omega
 have u0:=List.length_pos_iff.2 hu
 have v0:=List.length_pos_iff.2 hv
 have key:∀z1 z3:D,∃q,exS aS K.fv ⟨[.ref 0 0 (X++U++V++Y).length,z1,I ((X.length+U.length:Nat):Int),z3,.fn N.af [],I U.length,I V.length],[.arr 2 false 0 (wD (X++U++V++Y))]⟩=some q∧
  ∃(X' U' V' Y':List World),X'.length+U'.length=X.length+U.length∧U'.length=V'.length∧0<U'.length∧X'++V'++U'++Y'=X++V++U++Y∧(X'++U'++V'++Y').length=(X++U++V++Y).length∧
   q=(.exit 0,⟨[.ref 0 0 (X++U++V++Y).length,.und,I ((X.length+U.length:Nat):Int),.und,.fn N.af [],I U'.length,I V'.length],[.arr 2 false 0 (wD (X'++U'++V'++Y'))]⟩):=by
  intro z1 z3
  refine yb (fun n st=>∃(X' U' V' Y':List World),n=U'.length+V'.length∧X'.length+U'.length=X.length+U.length∧0<U'.length∧0<V'.length∧X'++V'++U'++Y'=X++V++U++Y∧(X'++U'++V'++Y').length=(X++U++V++Y).length∧
   st=⟨[.ref 0 0 (X++U++V++Y).length,.und,I ((X.length+U.length:Nat):Int),.und,.fn N.af [],I U'.length,I V'.length],[.arr 2 false 0 (wD (X'++U'++V'++Y'))]⟩) (U.length+V.length) _ ⟨X,U,V,Y,rfl,rfl,u0,v0,rfl,rfl,rfl⟩ ?_
  rintro n st ⟨X',U',V',Y',rfl,e1,p1,p2,e2,e3,rfl⟩
  have hlen':X'.length+U'.length+V'.length+Y'.length≤1000:=by simp at e3 hl;omega
  by_cases c:U'.length=V'.length
  · right
    refine⟨_,?_,by simp,X',U',V',Y',e1,c,p1,e2,e3,rfl⟩
    rw[← e1,←e3]
    have ce:(U'.length:Int)=V'.length:=by omega
    generalize X'++U'++V'++Y'=L at*
    generalize ((X'.length+U'.length:Nat):Int)=mm at*
    simp only[wD]
    simp(disch:=omega)only[go_sem,K.cn,↓reduceIte,ce,decide_true,Bool.not_true,aLt,reduceAdd,reduceSub]
  · left
    have ce:¬(U'.length:Int)=V'.length:=by omega
    have w1:IntKind.i64.wrap (((X'.length+U'.length:Nat):Int)-U'.length)=X'.length:=by
     rw[show((X'.length+U'.length:Nat):Int)-U'.length=(X'.length:Int)by omega];exact bz (by omega) (by omega)
    by_cases g:V'.length<U'.length
    · have ge:(U'.length:Int)>V'.length:=by omega
      have hU:U'=U'.take V'.length++U'.drop V'.length:=(List.take_append_drop _ _).symm
      have t1:(U'.take V'.length).length=V'.length:=by rw[List.length_take];omega
      have t2:(U'.drop V'.length).length=U'.length-V'.length:=List.length_drop
      have sw:=yc X' (U'.take V'.length) (U'.drop V'.length) V' Y' (X'++U'++V'++Y') ((X'++V')++U'.drop V'.length++U'.take V'.length++Y') X'.length ((X'.length+U'.length:Nat):Int) V'.length (by rw[List.append_assoc X' (U'.take V'.length),List.take_append_drop]) (by simp) (by omega) (by rw[e3];exact hl) rfl (by omega) (by omega)
      refine⟨_,(U'.drop V'.length).length+(U'.take V'.length).length,by omega,?_,X'++V',U'.drop V'.length,U'.take V'.length,Y',rfl,by rw[aLv,t2];omega,by omega,by omega,?_,?_,rfl⟩
      · have w2:IntKind.i64.wrap ((U'.length:Int)-V'.length)=((U'.drop V'.length).length:Nat):=by
         rw[t2,show(U'.length:Int)-V'.length=((U'.length-V'.length:Nat):Int)by omega];exact bz (by omega) (by omega)
        rw[← e1,←e3,t1]
        generalize (X'++V')++U'.drop V'.length++U'.take V'.length++Y'=L2 at*
        generalize ((U'.drop V'.length).length:Int)=nl at*
        generalize X'++U'++V'++Y'=L at*
        generalize ((X'.length+U'.length:Nat):Int)=mm at*
        clear hU t1 t2
        simp only[wD]at*
        simp(disch:=omega)only[go_sem,K.cn,↓reduceIte,ce,ge,w1,w2,sw,decide_false,Bool.not_false,reduceAdd,reduceSub]
      · rw[← e2,List.append_assoc (X'++V'),List.take_append_drop]
      · rw[← e3];simp;omega
    · have ge:¬(U'.length:Int)>V'.length:=by omega
      have hV:V'=V'.take (V'.length-U'.length)++V'.drop (V'.length-U'.length):=(List.take_append_drop _ _).symm
      have t1:(V'.take (V'.length-U'.length)).length=V'.length-U'.length:=by rw[List.length_take];omega
      have t2:(V'.drop (V'.length-U'.length)).length=U'.length:=by rw[List.length_drop];omega
      have sw:=yc X' U' (V'.take (V'.length-U'.length)) (V'.drop (V'.length-U'.length)) Y' (X'++U'++V'++Y') (X'++V'.drop (V'.length-U'.length)++V'.take (V'.length-U'.length)++(U'++Y')) X'.length ((X'.length+V'.length:Nat):Int) U'.length (by rw[List.append_assoc (X'++U') (V'.take (V'.length-U'.length)),List.take_append_drop]) (by simp) (by omega) (by rw[e3];exact hl) rfl (by omega) (by omega)
      refine⟨_,(V'.drop (V'.length-U'.length)).length+(V'.take (V'.length-U'.length)).length,by omega,?_,X',V'.drop (V'.length-U'.length),V'.take (V'.length-U'.length),U'++Y',rfl,by omega,by omega,by omega,?_,?_,rfl⟩
      · have w2:IntKind.i64.wrap ((V'.length:Int)-U'.length)=((V'.take (V'.length-U'.length)).length:Nat):=by
         rw[t1,show(V'.length:Int)-U'.length=((V'.length-U'.length:Nat):Int)by omega];exact bz (by omega) (by omega)
        have w3:IntKind.i64.wrap (((X'.length+U'.length:Nat):Int)+V'.length)=((X'.length+U'.length:Nat):Int)+V'.length:=bz (by omega) (by omega)
        have w4:IntKind.i64.wrap (((X'.length+U'.length:Nat):Int)+V'.length-U'.length)=((X'.length+V'.length:Nat):Int):=by
         rw[show((X'.length+U'.length:Nat):Int)+V'.length-U'.length=((X'.length+V'.length:Nat):Int)by omega];exact bz (by omega) (by omega)
        rw[← e1,←e3,t2]
        generalize X'++V'.drop (V'.length-U'.length)++V'.take (V'.length-U'.length)++(U'++Y')=L2 at*
        generalize ((V'.take (V'.length-U'.length)).length:Int)=nl at*
        generalize X'++U'++V'++Y'=L at*
        generalize ((X'.length+U'.length:Nat):Int)=mm at*
        generalize ((X'.length+V'.length:Nat):Int)=mv at*
        clear hV t1 t2
        simp only[wD]at*
        simp(disch:=omega)only[go_sem,K.cn,↓reduceIte,ce,ge,w1,w2,w3,w4,sw,decide_false,Bool.not_false,reduceAdd,reduceSub]
      · rw[← e2,List.append_assoc X',List.take_append_drop];simp
      · rw[← e3];simp;omega
 obtain⟨q,h1,X',U',V',Y',e1,e2,p1,e3,e4,rfl⟩:=key (I X.length) (I ((X.length+U.length+V.length:Nat):Int))
 have hlen':X'.length+U'.length+V'.length+Y'.length≤1000:=by simp at e4 hl;omega
 have sw:=yc X' U' [] V' Y' (X'++U'++V'++Y') (X'++V'++U'++Y') X'.length ((X'.length+U'.length:Nat):Int) U'.length (by simp) (by simp) (by omega) (by rw[e4];exact hl) rfl (by simp) rfl
 have w1:IntKind.i64.wrap (((X'.length+U'.length:Nat):Int)-U'.length)=X'.length:=by
  rw[show((X'.length+U'.length:Nat):Int)-U'.length=(X'.length:Int)by omega];exact bz (by omega) (by omega)
 have w2:IntKind.i64.wrap (((X.length+U.length:Nat):Int)-X.length)=U.length:=by
  rw[show((X.length+U.length:Nat):Int)-X.length=(U.length:Int)by omega];exact bz (by omega) (by omega)
 have w3:IntKind.i64.wrap (((X.length+U.length+V.length:Nat):Int)-((X.length+U.length:Nat):Int))=V.length:=by
  rw[show((X.length+U.length+V.length:Nat):Int)-((X.length+U.length:Nat):Int)=(V.length:Int)by omega];exact bz (by omega) (by omega)
 rw[e3,e4]at sw
 rw[e1]at sw w1
 generalize X++V++U++Y=L2 at*
 generalize X'++U'++V'++Y'=L at*
 generalize X++U++V++Y=L0 at*
 clear e1 e3
 generalize ((X.length+U.length:Nat):Int)=mm at*
 generalize ((X.length+U.length+V.length:Nat):Int)=bb at*
 simp only[wD]at*
 simp(disch:=omega)only[go_sem,K.aL,↓reduceIte,h1,w1,w2,w3,sw,reduceAdd,reduceSub]
theorem rO(i j:Nat)(h:i+j≤100000):IntKind.i64.wrap ((i:Int)+j)=((i+j:Nat):Int)∧IntKind.u64.wrap ((i+j:Nat):Int)=((i+j:Nat):Int)∧IntKind.i64.wrap (((i+j:Nat):Int).fdiv (2 ^ min 1 64))=(((i+j) / 2:Nat):Int):=by
 refine⟨?_,?_,?_⟩
 · rw[show(i:Int)+j=((i+j:Nat):Int)by omega];exact bz (by omega) (by omega)
 · generalize i+j=x at*
   simp only[IntKind.wrap,IntKind.bits,IntKind.signed];simp;omega
 · have e:(2:Int) ^ min 1 64=2:=rfl
   rw[e,Int.fdiv_eq_ediv_of_nonneg _ (by omega)]
   generalize i+j=x at*
   rw[show((x:Int) / 2)=((x / 2:Nat):Int)by omega]
   exact bz (by omega) (by omega)
theorem V5(P B Y:List World){c:Nat}(h:c<B.length):nth (P++(B++Y)) (P.length+c)=nth B c:=by
 refine bN ?_
 rw[aLh (by omega),show P.length+c-P.length=c by omega,aLg h]
 exact gq h
theorem yd(a b:List Int):(vR a b<0→lexB a b=true)∧(¬vR a b<0→lexB a b=false):=by
 refine⟨(ya a b).1,fun h=>?_⟩
 cases e:lexB a b with
 | false=>rfl
 | true=>exact absurd ((ya a b).2 e) h
theorem Tz(X:List World)(x:World)(B Y L:List World)(hL:L=X++x::(B++Y))(hx:x.sz)(hz:∀w∈B,w.sz)(hl:L.length≤1000)(m:Nat)(hm0:m=X.length+1):
 ∀z2 z3 z7 z8 z9 z10 z11 z12 z13 z14 z15 z16 z17 z18 z19:D,∃q,exS aS K.eQ ⟨[.ref 0 0 L.length,I X.length,z2,z3,.fn N.af [],I (((m:Nat):Int)),I (((m+B.length:Nat):Int)),z7,z8,z9,z10,z11,z12,z13,z14,z15,z16,z17,z18,z19],[.arr 2 false 0 (List.map D.t (List.map World.e L))]⟩=some q∧∃s:Nat,s≤B.length∧(s=0∨lexB (nth B (s-1)).tags x.tags=true)∧(s=B.length∨lexB (nth B s).tags x.tags=false)∧q=(.exit 0,⟨[.ref 0 0 L.length,I X.length,.und,.und,.fn N.af [],I (((m+s:Nat):Int)),I (((m+s:Nat):Int)),.und,.und,.und,.und,.und,.und,.und,.und,.und,.und,.und,.und,.und],[.arr 2 false 0 (List.map D.t (List.map World.e L))]⟩):=by
 intro z2 z3 z7 z8 z9 z10 z11 z12 z13 z14 z15 z16 z17 z18 z19
 have ll:m+B.length+Y.length=L.length:=by rw[hL,hm0];simp;omega
 refine yb (fun n st=>∃s t:Nat,n=t-s∧s≤t∧t≤B.length∧(s=0∨lexB (nth B (s-1)).tags x.tags=true)∧(t=B.length∨lexB (nth B t).tags x.tags=false)∧st=⟨[.ref 0 0 L.length,I X.length,.und,.und,.fn N.af [],I (((m+s:Nat):Int)),I (((m+t:Nat):Int)),.und,.und,.und,.und,.und,.und,.und,.und,.und,.und,.und,.und,.und],[.arr 2 false 0 (List.map D.t (List.map World.e L))]⟩) B.length _ ⟨0,B.length,by omega,by omega,by omega,.inl rfl,.inl rfl,rfl⟩ ?_
 rintro n st ⟨s,t,rfl,h1,h2,h3,h4,rfl⟩
 by_cases c:s=t
 · right
   subst c
   refine⟨_,?_,by simp,s,h2,h3,h4,rfl⟩
   have ge:¬((m+s:Nat):Int)<((m+s:Nat):Int):=by omega
   simp(disch:=omega)only[go_sem,K.bS,↓reduceIte,reduceAdd,reduceSub]
 · left
   have lt:((m+s:Nat):Int)<((m+t:Nat):Int):=by omega
   obtain⟨w1,w2,w3⟩:=rO (m+s) (m+t) (by omega)
   have hm:((m+s)+(m+t)) / 2=m+(s+t) / 2:=by omega
   rw[hm]at w3
   have c1:s≤(s+t) / 2:=by omega
   have c2:(s+t) / 2<t:=by omega
   generalize (s+t) / 2=c' at*
   have n1:nth L (m+c')=nth B c':=by
    have:=V5 (X++[x]) B Y (c:=c') (by omega)
    rw[hL,hm0];simpa using this
   have n0:nth L X.length=x:=by rw[hL];exact sF rfl
   have cm:=mI (nth B c') x (by first | exact hz _ (az (by omega)) | exact hx) (by first | exact hz _ (az (by omega)) | exact hx)
   obtain⟨k1,k2⟩:=yd ((nth B c')).tags (x).tags
   have wk:IntKind.i64.wrap (((m+c':Nat):Int)+1)=((m+(c'+1):Nat):Int):=by
    rw[show((m+c':Nat):Int)+1=((m+(c'+1):Nat):Int)by omega];exact bz (by omega) (by omega)
   by_cases v0:vR ((nth B c')).tags (x).tags<0
   · refine⟨_,t-(c'+1),by omega,?_,c'+1,t,rfl,by omega,h2,.inr (by rw[Nat.add_sub_cancel];exact k1 v0),h4,rfl⟩
     have bj:(m+t)≤2000:=by omega
     have cl1:m+c'<L.length:=by omega
     clear k1 k2 h3 h4
     generalize vR ((nth B c')).tags (x).tags=v at*
     generalize hu:(nth B c')=u at*
     generalize hv:x=w at*
     generalize m+s+(m+t)=sm at*
     generalize m+(c'+1)=cp at*
     generalize m+c'=cc at*
     generalize m+s=ss at*
     generalize m+t=tt at*
     obtain⟨a1,b1⟩:=u
     obtain⟨a2,b2⟩:=w
     clear hz hu hv hx
     simp(disch:=omega)only[go_sem,K.bS,↓reduceIte,lt,w1,w2,w3,wk,cm,v0,n1,n0,decide_true,decide_false,Bool.not_true,Bool.not_false,reduceAdd,reduceSub]
   · refine⟨_,c'-s,by omega,?_,s,c',rfl,c1,by omega,h3,.inr (k2 v0),rfl⟩
     have bj:(m+t)≤2000:=by omega
     have cl1:m+c'<L.length:=by omega
     clear k1 k2 h3 h4
     generalize vR ((nth B c')).tags (x).tags=v at*
     generalize hu:(nth B c')=u at*
     generalize hv:x=w at*
     generalize m+s+(m+t)=sm at*
     generalize m+(c'+1)=cp at*
     generalize m+c'=cc at*
     generalize m+s=ss at*
     generalize m+t=tt at*
     obtain⟨a1,b1⟩:=u
     obtain⟨a2,b2⟩:=w
     clear hz hu hv hx
     simp(disch:=omega)only[go_sem,K.bS,↓reduceIte,lt,w1,w2,w3,wk,cm,v0,n1,n0,decide_true,decide_false,Bool.not_true,Bool.not_false,reduceAdd,reduceSub]
theorem TA(X A:List World)(x:World)(Y L:List World)(hL:L=X++(A++x::Y))(hx:x.sz)(hz:∀w∈A,w.sz)(hl:L.length≤1000)(m:Nat)(hm0:m=X.length+A.length):
 ∀z1 z3 z5 z6 z7 z8 z11 z12 z13 z14 z15 z16 z17 z18 z19:D,∃q,exS aS K.eS ⟨[.ref 0 0 L.length,z1,I m,z3,.fn N.af [],z5,z6,z7,z8,I (((X.length:Nat):Int)),I (((X.length+A.length:Nat):Int)),z11,z12,z13,z14,z15,z16,z17,z18,z19],[.arr 2 false 0 (List.map D.t (List.map World.e L))]⟩=some q∧∃s:Nat,s≤A.length∧(s=0∨lexB x.tags (nth A (s-1)).tags=false)∧(s=A.length∨lexB x.tags (nth A s).tags=true)∧q=(.exit 4,⟨[.ref 0 0 L.length,.und,I m,.und,.fn N.af [],.und,.und,.und,.und,I (((X.length+s:Nat):Int)),I (((X.length+s:Nat):Int)),.und,.und,.und,.und,.und,.und,.und,.und,.und],[.arr 2 false 0 (List.map D.t (List.map World.e L))]⟩):=by
 intro z1 z3 z5 z6 z7 z8 z11 z12 z13 z14 z15 z16 z17 z18 z19
 have ll:m+1+Y.length=L.length:=by rw[hL,hm0];simp;omega
 refine yb (fun n st=>∃s t:Nat,n=t-s∧s≤t∧t≤A.length∧(s=0∨lexB x.tags (nth A (s-1)).tags=false)∧(t=A.length∨lexB x.tags (nth A t).tags=true)∧st=⟨[.ref 0 0 L.length,.und,I m,.und,.fn N.af [],.und,.und,.und,.und,I (((X.length+s:Nat):Int)),I (((X.length+t:Nat):Int)),.und,.und,.und,.und,.und,.und,.und,.und,.und],[.arr 2 false 0 (List.map D.t (List.map World.e L))]⟩) A.length _ ⟨0,A.length,by omega,by omega,by omega,.inl rfl,.inl rfl,rfl⟩ ?_
 rintro n st ⟨s,t,rfl,h1,h2,h3,h4,rfl⟩
 by_cases c:s=t
 · right
   subst c
   refine⟨_,?_,by simp,s,h2,h3,h4,rfl⟩
   have ge:¬((X.length+s:Nat):Int)<((X.length+s:Nat):Int):=by omega
   simp(disch:=omega)only[go_sem,K.bT,↓reduceIte,reduceAdd,reduceSub]
 · left
   have lt:((X.length+s:Nat):Int)<((X.length+t:Nat):Int):=by omega
   obtain⟨w1,w2,w3⟩:=rO (X.length+s) (X.length+t) (by omega)
   have hm:((X.length+s)+(X.length+t)) / 2=X.length+(s+t) / 2:=by omega
   rw[hm]at w3
   have c1:s≤(s+t) / 2:=by omega
   have c2:(s+t) / 2<t:=by omega
   generalize (s+t) / 2=c' at*
   have n1:nth L (X.length+c')=nth A c':=by rw[hL];exact V5 X A (x::Y) (by omega)
   have n0:nth L m=x:=by
    have:=sF (p:=X++A) (x:=x) (r:=Y) (j:=m) (by rw[hm0];simp)
    rw[hL];simpa using this
   have cm:=mI x (nth A c') (by first | exact hz _ (az (by omega)) | exact hx) (by first | exact hz _ (az (by omega)) | exact hx)
   obtain⟨k1,k2⟩:=yd (x).tags ((nth A c')).tags
   have wk:IntKind.i64.wrap (((X.length+c':Nat):Int)+1)=((X.length+(c'+1):Nat):Int):=by
    rw[show((X.length+c':Nat):Int)+1=((X.length+(c'+1):Nat):Int)by omega];exact bz (by omega) (by omega)
   by_cases v0:vR (x).tags ((nth A c')).tags<0
   · refine⟨_,c'-s,by omega,?_,s,c',rfl,c1,by omega,h3,.inr (k1 v0),rfl⟩
     have bj:(X.length+t)≤2000:=by omega
     have cl1:X.length+c'<L.length:=by omega
     clear k1 k2 h3 h4
     generalize vR (x).tags ((nth A c')).tags=v at*
     generalize hu:x=u at*
     generalize hv:(nth A c')=w at*
     generalize X.length+s+(X.length+t)=sm at*
     generalize X.length+(c'+1)=cp at*
     generalize X.length+c'=cc at*
     generalize X.length+s=ss at*
     generalize X.length+t=tt at*
     obtain⟨a1,b1⟩:=u
     obtain⟨a2,b2⟩:=w
     clear hz hu hv hx
     simp(disch:=omega)only[go_sem,K.bT,↓reduceIte,lt,w1,w2,w3,wk,cm,v0,n1,n0,decide_true,decide_false,Bool.not_true,Bool.not_false,reduceAdd,reduceSub]
   · refine⟨_,t-(c'+1),by omega,?_,c'+1,t,rfl,by omega,h2,.inr (by rw[Nat.add_sub_cancel];exact k2 v0),h4,rfl⟩
     have bj:(X.length+t)≤2000:=by omega
     have cl1:X.length+c'<L.length:=by omega
     clear k1 k2 h3 h4
     generalize vR (x).tags ((nth A c')).tags=v at*
     generalize hu:x=u at*
     generalize hv:(nth A c')=w at*
     generalize X.length+s+(X.length+t)=sm at*
     generalize X.length+(c'+1)=cp at*
     generalize X.length+c'=cc at*
     generalize X.length+s=ss at*
     generalize X.length+t=tt at*
     obtain⟨a1,b1⟩:=u
     obtain⟨a2,b2⟩:=w
     clear hz hu hv hx
     simp(disch:=omega)only[go_sem,K.bT,↓reduceIte,lt,w1,w2,w3,wk,cm,v0,n1,n0,decide_true,decide_false,Bool.not_true,Bool.not_false,reduceAdd,reduceSub]
theorem TC(X:List World)(x:World)(B Y:List World)(N:Nat)(hN:(X++x::(B++Y)).length=N)(hl:N≤1000)(i:Int)(hi:i=((X.length+B.length+1:Nat):Int)):
 ∀z1 z2 z3 z4 z6 z7 z9 z10 z11 z12 z13 z14 z15 z16 z17 z18 z19:D,exS aS K.eR ⟨[.ref 0 0 N,z1,z2,z3,z4,I i,z6,z7,I ((X.length:Nat)),z9,z10,z11,z12,z13,z14,z15,z16,z17,z18,z19],[.arr 2 false 0 (List.map D.t (List.map World.e (X++x::(B++Y))))]⟩=some (.exit 2,⟨[.ref 0 0 N,.und,.und,.und,.und,I i,.und,.und,I (((X.length+B.length:Nat):Int)),.und,.und,.und,.und,.und,.und,.und,.und,.und,.und,.und],[.arr 2 false 0 (List.map D.t (List.map World.e (X++(B++x::Y))))]⟩):=by
 intro z1 z2 z3 z4 z6 z7 z9 z10 z11 z12 z13 z14 z15 z16 z17 z18 z19
 have hlen:X.length+1+B.length+Y.length=N:=by rw[← hN];simp;omega
 have f1:X++(B.take B.length++x::(B.drop B.length++Y))=X++(B++x::Y):=by rw[List.take_length,List.drop_length];simp
 rw[← f1]
 refine eK (fun k=>⟨[.ref 0 0 N,.und,.und,.und,.und,I i,.und,.und,I (((X.length+k:Nat):Int)),.und,.und,.und,.und,.und,.und,.und,.und,.und,.und,.und],[.arr 2 false 0 (List.map D.t (List.map World.e (X++(B.take k++x::(B.drop k++Y)))))]⟩) B.length (by simp only[List.take_zero,List.drop_zero,List.nil_append,Nat.add_zero];rfl) ?_ ?_ (by simp)
 · intro k hk
   have s1:X++(B.take k++x::(B.drop k++Y))=(X++B.take k)++x::([]++nth B k::(B.drop (k+1)++Y)):=by rw[I4 hk];simp
   have s2:X++(B.take (k+1)++x::(B.drop (k+1)++Y))=(X++B.take k)++nth B k::([]++x::(B.drop (k+1)++Y)):=by rw[ju hk];simp
   obtain⟨n0,n1,l0,l1,g1,g2,t1,t2,ln⟩:=swp (p1:=X++B.take k) (mid:=[]) (r:=B.drop (k+1)++Y) (u:=x) (v:=nth B k) (i:=X.length+k) (k:=X.length+k+1) (by rw[aLv,List.length_take];omega) (by simp)
   rw[s1,s2]
   have tl:((X++B.take k)++x::([]++nth B k::(B.drop (k+1)++Y))).length=N:=by rw[← s1,←hN];simp;omega
   have w1:IntKind.i64.wrap (((X.length+k:Nat):Int)+1)=((X.length+k+1:Nat):Int):=by
    rw[show((X.length+k:Nat):Int)+1=((X.length+k+1:Nat):Int)by omega];exact bz (by omega) (by omega)
   have w2:IntKind.i64.wrap (i-1)=i-1:=bz (by omega) (by omega)
   have lt:((X.length+k:Nat):Int)<i-1:=by omega
   have g1':∀z:D,((List.map D.t (List.map World.e ((X++B.take k)++x::([]++nth B k::(B.drop (k+1)++Y))))).set (X.length+k) z)[X.length+k+1]?=some (D.t (nth B k).e):=g1
   have t1':((List.map D.t (List.map World.e ((X++B.take k)++x::([]++nth B k::(B.drop (k+1)++Y))))).set (X.length+k) (D.t (nth B k).e)).set (X.length+k+1) (D.t x.e)=List.map D.t (List.map World.e ((X++B.take k)++nth B k::([]++x::(B.drop (k+1)++Y)))):=t1
   rw[tl]at l0 l1
   have e2:X.length+(k+1)=X.length+k+1:=by omega
   rw[e2]
   clear g1 g2 t1 t2 s1 s2 f1
   generalize ((X++B.take k)++nth B k::([]++x::(B.drop (k+1)++Y)))=L2 at*
   generalize ((X++B.take k)++x::([]++nth B k::(B.drop (k+1)++Y)))=L at*
   generalize hkk:X.length+k+1=kk at*
   generalize X.length+k=ii at*
   generalize nth B k=v at*
   subst tl
   obtain⟨a1,b1⟩:=x
   obtain⟨a2,b2⟩:=v
   clear hi hlen
   simp(disch:=omega)only[go_sem,K.cP,↓reduceIte,w1,w2,lt,n0,n1,g1',t1',reduceAdd,reduceSub]
 · rw[f1]
   have ge:¬((X.length+B.length:Nat):Int)<i-1:=by omega
   have w2:IntKind.i64.wrap (i-1)=i-1:=bz (by omega) (by omega)
   clear hi
   generalize X++(B++x::Y)=L at*
   generalize ((X.length+B.length:Nat):Int)=kk at*
   simp(disch:=omega)only[go_sem,K.cP,↓reduceIte,w2,ge,reduceAdd,reduceSub]
theorem TD(X A:List World)(x:World)(Y:List World)(N:Nat)(hN:(X++(A++x::Y)).length=N)(hl:N≤1000)(i:Int)(hi:i=X.length):
 ∀z1 z2 z3 z4 z5 z6 z7 z8 z10 z11 z13 z14 z15 z16 z17 z18 z19:D,exS aS K.eT ⟨[.ref 0 0 N,z1,z2,z3,z4,z5,z6,z7,z8,I i,z10,z11,I (((X.length+A.length:Nat):Int)),z13,z14,z15,z16,z17,z18,z19],[.arr 2 false 0 (List.map D.t (List.map World.e (X++(A++x::Y))))]⟩=some (.exit 6,⟨[.ref 0 0 N,.und,.und,.und,.und,.und,.und,.und,.und,I i,.und,.und,I (((X.length:Nat):Int)),.und,.und,.und,.und,.und,.und,.und],[.arr 2 false 0 (List.map D.t (List.map World.e (X++x::(A++Y))))]⟩):=by
 intro z1 z2 z3 z4 z5 z6 z7 z8 z10 z11 z13 z14 z15 z16 z17 z18 z19
 have hlen:X.length+1+A.length+Y.length=N:=by rw[← hN];simp;omega
 have f1:X++(A.take (A.length-A.length)++x::(A.drop (A.length-A.length)++Y))=X++x::(A++Y):=by rw[Nat.sub_self,List.take_zero,List.drop_zero];simp
 have f2:X.length+(A.length-A.length)=X.length:=by omega
 have f3:X++(A.take (A.length-0)++x::(A.drop (A.length-0)++Y))=X++(A++x::Y):=by rw[Nat.sub_zero,List.take_length,List.drop_length];simp
 rw[← f1,←f3]
 refine eK (fun k=>⟨[.ref 0 0 N,.und,.und,.und,.und,.und,.und,.und,.und,I i,.und,.und,I (((X.length+(A.length-k):Nat):Int)),.und,.und,.und,.und,.und,.und,.und],[.arr 2 false 0 (List.map D.t (List.map World.e (X++(A.take (A.length-k)++x::(A.drop (A.length-k)++Y)))))]⟩) A.length (by simp only[Nat.sub_zero];rfl) ?_ ?_ (by simp)
 · intro k hk
   obtain⟨j,hj⟩:∃j,A.length-k=j+1:=⟨A.length-k-1,by omega⟩
   have hj2:A.length-(k+1)=j:=by omega
   rw[hj,hj2]
   have jl:j<A.length:=by omega
   have s1:X++(A.take (j+1)++x::(A.drop (j+1)++Y))=(X++A.take j)++nth A j::([]++x::(A.drop (j+1)++Y)):=by rw[ju jl];simp
   have s2:X++(A.take j++x::(A.drop j++Y))=(X++A.take j)++x::([]++nth A j::(A.drop (j+1)++Y)):=by rw[I4 jl];simp
   obtain⟨n0,n1,l0,l1,g1,g2,t1,t2,ln⟩:=swp (p1:=X++A.take j) (mid:=[]) (r:=A.drop (j+1)++Y) (u:=nth A j) (v:=x) (i:=X.length+j) (k:=X.length+j+1) (by rw[aLv,List.length_take];omega) (by simp)
   rw[s1,s2]
   have tl:((X++A.take j)++nth A j::([]++x::(A.drop (j+1)++Y))).length=N:=by rw[← s1,←hN];simp;omega
   have w1:IntKind.i64.wrap (((X.length+(j+1):Nat):Int)-1)=((X.length+j:Nat):Int):=by
    rw[show((X.length+(j+1):Nat):Int)-1=((X.length+j:Nat):Int)by omega];exact bz (by omega) (by omega)
   have lt:((X.length+(j+1):Nat):Int)>i:=by omega
   have g2':∀z:D,((List.map D.t (List.map World.e ((X++A.take j)++nth A j::([]++x::(A.drop (j+1)++Y))))).set (X.length+j+1) z)[X.length+j]?=some (D.t (nth A j).e):=g2
   have t2':((List.map D.t (List.map World.e ((X++A.take j)++nth A j::([]++x::(A.drop (j+1)++Y))))).set (X.length+j+1) (D.t (nth A j).e)).set (X.length+j) (D.t x.e)=List.map D.t (List.map World.e ((X++A.take j)++x::([]++nth A j::(A.drop (j+1)++Y)))):=t2
   rw[tl]at l0 l1
   clear g1 g2 t1 t2 s1 s2 f1 f2 f3
   generalize ((X++A.take j)++x::([]++nth A j::(A.drop (j+1)++Y)))=L2 at*
   generalize ((X++A.take j)++nth A j::([]++x::(A.drop (j+1)++Y)))=L at*
   have e2:X.length+(j+1)=X.length+j+1:=by omega
   rw[e2]at*
   generalize hkk:X.length+j+1=kk at*
   generalize X.length+j=ii at*
   generalize nth A j=v at*
   subst tl
   obtain⟨a1,b1⟩:=x
   obtain⟨a2,b2⟩:=v
   clear hi hlen hj hj2
   simp(disch:=omega)only[go_sem,K.cQ,↓reduceIte,w1,lt,n0,n1,g2',t2',reduceAdd,reduceSub]
 · rw[f1,f2]
   have ge:¬((X.length:Nat):Int)>i:=by omega
   generalize X++x::(A++Y)=L at*
   generalize ((X.length:Nat):Int)=kk at*
   simp(disch:=omega)only[go_sem,K.cQ,↓reduceIte,ge,reduceAdd,reduceSub]
theorem TE(X A B Y L:List World)(hL:L=X++(A++(B++Y)))(ha:∀w∈A,w.sz)(hb:∀w∈B,w.sz)(hl:L.length≤1000)(h s0 t0 pv:Nat)(c1:t0≤h)(c2:t0≤A.length)(c3:s0≤t0)(c4:h≤s0+B.length)(hp:pv+1=X.length+(X.length+A.length)+h)(v1 v2 v3 v13 v14:Int):
 ∀z5 z6 z7 z8 z9 z10 z11 z12 z18 z19:D,∃q,exS aS K.cZ ⟨[.ref 0 0 L.length,I v1,I v2,I v3,.fn N.af [],z5,z6,z7,z8,z9,z10,z11,z12,I v13,I v14,I (((X.length+s0:Nat):Int)),I (((X.length+t0:Nat):Int)),I (pv:Nat),z18,z19],[.arr 2 false 0 (List.map D.t (List.map World.e L))]⟩=some q∧∃s:Nat,s0≤s∧s≤t0∧(s=s0∨lexB (nth B (h-s)).tags (nth A (s-1)).tags=false)∧(s=t0∨lexB (nth B (h-1-s)).tags (nth A s).tags=true)∧q=(.exit 8,⟨[.ref 0 0 L.length,I v1,I v2,I v3,.fn N.af [],.und,.und,.und,.und,.und,.und,.und,.und,I v13,I v14,I (((X.length+s:Nat):Int)),I (((X.length+s:Nat):Int)),I (pv:Nat),.und,.und],[.arr 2 false 0 (List.map D.t (List.map World.e L))]⟩):=by
 intro z5 z6 z7 z8 z9 z10 z11 z12 z18 z19
 have ll:X.length+A.length+B.length+Y.length=L.length:=by rw[hL];simp;omega
 refine yb (fun n st=>∃s t:Nat,n=t-s∧s0≤s∧s≤t∧t≤t0∧(s=s0∨lexB (nth B (h-s)).tags (nth A (s-1)).tags=false)∧(t=t0∨lexB (nth B (h-1-t)).tags (nth A t).tags=true)∧st=⟨[.ref 0 0 L.length,I v1,I v2,I v3,.fn N.af [],.und,.und,.und,.und,.und,.und,.und,.und,I v13,I v14,I (((X.length+s:Nat):Int)),I (((X.length+t:Nat):Int)),I (pv:Nat),.und,.und],[.arr 2 false 0 (List.map D.t (List.map World.e L))]⟩) (t0-s0) _ ⟨s0,t0,rfl,aLs _,c3,aLs _,.inl rfl,.inl rfl,rfl⟩ ?_
 rintro n st ⟨s,t,rfl,h0,h1,h2,h3,h4,rfl⟩
 by_cases c:s=t
 · right
   subst c
   refine⟨_,?_,by simp,s,h0,h2,h3,h4,rfl⟩
   have ge:¬((X.length+s:Nat):Int)<((X.length+s:Nat):Int):=by omega
   simp(disch:=omega)only[go_sem,K.bU,↓reduceIte,reduceAdd,reduceSub]
 · left
   have lt:((X.length+s:Nat):Int)<((X.length+t:Nat):Int):=by omega
   obtain⟨w1,w2,w3⟩:=rO (X.length+s) (X.length+t) (by omega)
   have hm:((X.length+s)+(X.length+t)) / 2=X.length+(s+t) / 2:=by omega
   rw[hm]at w3
   have d1:s≤(s+t) / 2:=by omega
   have d2:(s+t) / 2<t:=by omega
   generalize (s+t) / 2=c' at*
   have n1:nth L (X.length+c')=nth A c':=by rw[hL];exact V5 X A (B++Y) (by omega)
   have n0:nth L (X.length+A.length+(h-1-c'))=nth B (h-1-c'):=by
    have:=V5 (X++A) B Y (c:=h-1-c') (by omega)
    rw[hL];simpa using this
   have cm:=mI (nth B (h-1-c')) (nth A c') (hb _ (az (by omega))) (ha _ (az (by omega)))
   obtain⟨k1,k2⟩:=yd (nth B (h-1-c')).tags (nth A c').tags
   have wk:IntKind.i64.wrap (((X.length+c':Nat):Int)+1)=((X.length+(c'+1):Nat):Int):=by
    rw[show((X.length+c':Nat):Int)+1=((X.length+(c'+1):Nat):Int)by omega];exact bz (by omega) (by omega)
   have wp:IntKind.i64.wrap ((pv:Int)-((X.length+c':Nat):Int))=((X.length+A.length+(h-1-c'):Nat):Int):=by
    rw[show(pv:Int)-((X.length+c':Nat):Int)=((X.length+A.length+(h-1-c'):Nat):Int)by omega];exact bz (by omega) (by omega)
   have cl1:X.length+c'<L.length:=by omega
   have cl2:X.length+A.length+(h-1-c')<L.length:=by omega
   by_cases v0:vR (nth B (h-1-c')).tags (nth A c').tags<0
   · refine⟨_,c'-s,by omega,?_,s,c',rfl,h0,d1,by omega,h3,.inr (k1 v0),rfl⟩
     clear k1 k2 h3 h4
     generalize vR (nth B (h-1-c')).tags (nth A c').tags=v at*
     generalize hu:nth B (h-1-c')=u at*
     generalize hv:nth A c'=w at*
     generalize X.length+s+(X.length+t)=sm at*
     generalize X.length+A.length+(h-1-c')=pc at*
     generalize X.length+(c'+1)=cp at*
     generalize X.length+c'=cc at*
     generalize X.length+s=ss at*
     generalize X.length+t=tt at*
     obtain⟨a1,b1⟩:=u
     obtain⟨a2,b2⟩:=w
     clear ha hb hu hv hp
     simp(disch:=omega)only[go_sem,K.bU,↓reduceIte,lt,w1,w2,w3,wk,wp,cm,v0,n1,n0,decide_true,decide_false,Bool.not_true,Bool.not_false,reduceAdd,reduceSub]
   · refine⟨_,t-(c'+1),by omega,?_,c'+1,t,rfl,by omega,by omega,h2,.inr (by rw[Nat.add_sub_cancel,show h-(c'+1)=h-1-c' by omega];exact k2 v0),h4,rfl⟩
     clear k1 k2 h3 h4
     generalize vR (nth B (h-1-c')).tags (nth A c').tags=v at*
     generalize hu:nth B (h-1-c')=u at*
     generalize hv:nth A c'=w at*
     generalize X.length+s+(X.length+t)=sm at*
     generalize X.length+A.length+(h-1-c')=pc at*
     generalize X.length+(c'+1)=cp at*
     generalize X.length+c'=cc at*
     generalize X.length+s=ss at*
     generalize X.length+t=tt at*
     obtain⟨a1,b1⟩:=u
     obtain⟨a2,b2⟩:=w
     clear ha hb hu hv hp
     simp(disch:=omega)only[go_sem,K.bU,↓reduceIte,lt,w1,w2,w3,wk,wp,cm,v0,n1,n0,decide_true,decide_false,Bool.not_true,Bool.not_false,reduceAdd,reduceSub]
abbrev leW(x y:World):Prop:=lexB y.tags x.tags=false
theorem I5(x:World):leW x x:=lex_irrefl _
theorem GI{x y:World}(h:lexB x.tags y.tags=true):leW x y:=by
 cases k:lexB y.tags x.tags with
 | false=>exact k
 | true=>have:=lex_trans h k;rw[lex_irrefl]at this;cases this
theorem j6{x y z:World}(h:leW x y)(g:leW y z):leW x z:=by
 unfold leW at*
 cases k:lexB z.tags x.tags with
 | false=>rfl
 | true=>
   rcases jA y.tags x.tags with a | a | a
   · rw[a]at h;cases h
   · rw[a,k]at g;cases g
   · have:=lex_trans k a;rw[this]at g;cases g
theorem kg{l:List World}(h:kf l){i j:Nat}(hij:i≤j)(hj:j<l.length):leW (nth l i) (nth l j):=by
 rcases Nat.lt_or_eq_of_le hij with q | q
 · have e1:nth l i=l[i]:=bN (aLc (by omega))
   have e2:nth l j=l[j]:=bN (aLc hj)
   rw[e1,e2]
   exact List.pairwise_iff_getElem.1 h i j (by omega) hj q
 · subst q;exact I5 _
theorem sG{l:List World}{s:Nat}{x:World}(h:x∈l.take s):∃i,i<s∧i<l.length∧nth l i=x:=by
 obtain⟨i,hi,e⟩:=List.mem_iff_getElem.1 h
 rw[List.length_take]at hi
 rw[List.getElem_take]at e
 exact⟨i,by omega,by omega,by rw[← e];exact bN (aLc (by omega))⟩
theorem oT{l:List World}{s:Nat}{x:World}(h:x∈l.drop s):∃i,s≤i∧i<l.length∧nth l i=x:=by
 obtain⟨i,hi,e⟩:=List.mem_iff_getElem.1 h
 rw[List.length_drop]at hi
 rw[List.getElem_drop]at e
 exact⟨s+i,by omega,by omega,by rw[← e];exact bN (aLc (by omega))⟩
theorem Bz{p q:List World}(hp:kf p)(hq:kf q)(h:∀x∈p,∀y∈q,leW x y):kf (p++q):=List.pairwise_append.2 ⟨hp,hq,fun a ha b hb=>h a ha b hb⟩
theorem CO{l:List World}(h:kf l)(s:Nat):kf (l.take s):=h.sublist (List.take_sublist _ _)
theorem CP{l:List World}(h:kf l)(s:Nat):kf (l.drop s):=h.sublist (List.drop_sublist _ _)
theorem N7(X:List World)(x:World)(B Y:List World)(hB:B≠[])(so:kf B)(hz:∀w∈X++[x]++B++Y,w.sz)(hl:(X++[x]++B++Y).length≤1000):
 ∃C:List World,C.Perm ([x]++B)∧kf C∧aS 0 N.aa [.ref 0 0 (X++[x]++B++Y).length,I X.length,I ((X.length+1:Nat):Int),I ((X.length+1+B.length:Nat):Int),.fn N.af []] [.arr 2 false 0 (wD (X++[x]++B++Y))]=some (.tup [],[.arr 2 false 0 (wD (X++C++Y))]):=by
 have e0:X++[x]++B++Y=X++x::(B++Y):=by simp
 rw[e0]at hz hl ⊢
 have ll:X.length+1+B.length+Y.length=(X++x::(B++Y)).length:=by simp;omega
 obtain⟨q,h1,s,s1,s2,s3,rfl⟩:=Tz X x B Y _ rfl (hz x (by simp)) (fun w hw=>hz w (by simp[hw])) hl (X.length+1) rfl (I ((X.length+1:Nat):Int)) (I ((X.length+1+B.length:Nat):Int)) .und .und .und .und .und .und .und .und .und .und .und .und .und
 have eB:B=B.take s++B.drop s:=(List.take_append_drop _ _).symm
 have tl:(B.take s).length=s:=by rw[List.length_take];omega
 have e1:X++x::(B++Y)=X++x::(B.take s++(B.drop s++Y)):=by rw[← List.append_assoc (B.take s),←eB]
 have h2:=TC X x (B.take s) (B.drop s++Y) (X++x::(B++Y)).length (by rw[← e1]) hl ((X.length+1+s:Nat):Int) (by rw[tl];omega)
 rw[← e1,tl]at h2
 refine⟨B.take s++x::B.drop s,?_,?_,aE K.bC rfl ?_⟩
 · have:(B.take s++x::B.drop s).Perm (x::(B.take s++B.drop s)):=List.perm_middle
   rw[← eB]at this
   exact this
 · refine Bz (CO so s) (List.pairwise_cons.2 ⟨fun y hy=>?_,CP so s⟩) fun b hb y hy=>?_
   · obtain⟨i,i1,i2,rfl⟩:=oT hy
     have k:=s3.resolve_left (by omega)
     exact j6 (show leW x (nth B s)from k) (kg so i1 i2)
   · obtain⟨i,i1,i2,rfl⟩:=sG hb
     have k:=GI (s2.resolve_left (by omega))
     have bx:=j6 (kg so (show i≤s-1 by omega) (by omega)) k
     rcases List.mem_cons.1 hy with rfl | hy
     · exact bx
     · obtain⟨j,j1,j2,rfl⟩:=oT hy
       exact kg so (by omega) j2
 · have e2:X++(B.take s++x::B.drop s)++Y=X++(B.take s++x::(B.drop s++Y)):=by simp
   rw[e2]
   have w1:IntKind.i64.wrap (((X.length+1:Nat):Int)-X.length)=1:=by
    rw[show((X.length+1:Nat):Int)-X.length=(1:Int)by omega];exact bz (by omega) (by omega)
   clear e0 e1 e2 eB s2 s3
   generalize X++(B.take s++x::(B.drop s++Y))=L2 at*
   generalize X++x::(B++Y)=L at*
   generalize ((X.length+1:Nat):Int)=mm at*
   generalize ((X.length+1+B.length:Nat):Int)=bb at*
   generalize ((X.length+1+s:Nat):Int)=ss at*
   generalize ((X.length+s:Nat):Int)=xs at*
   simp only[wD]at*
   simp(disch:=omega)only[go_sem,K.aa,↓reduceIte,w1,h1,h2,decide_true,reduceAdd,reduceSub]
theorem N8(X A:List World)(x:World)(Y:List World)(hA:2≤A.length)(so:kf A)(hz:∀w∈X++A++[x]++Y,w.sz)(hl:(X++A++[x]++Y).length≤1000):
 ∃C:List World,C.Perm (A++[x])∧kf C∧aS 0 N.aa [.ref 0 0 (X++A++[x]++Y).length,I X.length,I ((X.length+A.length:Nat):Int),I ((X.length+A.length+1:Nat):Int),.fn N.af []] [.arr 2 false 0 (wD (X++A++[x]++Y))]=some (.tup [],[.arr 2 false 0 (wD (X++C++Y))]):=by
 have e0:X++A++[x]++Y=X++(A++x::Y):=by simp
 rw[e0]at hz hl ⊢
 have ll:X.length+1+A.length+Y.length=(X++(A++x::Y)).length:=by simp;omega
 obtain⟨q,h1,s,s1,s2,s3,rfl⟩:=TA X A x Y _ rfl (hz x (by simp)) (fun w hw=>hz w (by simp[hw])) hl (X.length+A.length) rfl (I X.length) (I ((X.length+A.length+1:Nat):Int)) .und .und .und .und .und .und .und .und .und .und .und .und .und
 have eA:A=A.take s++A.drop s:=(List.take_append_drop _ _).symm
 have tl:(A.take s).length=s:=by rw[List.length_take];omega
 have dl:(A.drop s).length=A.length-s:=List.length_drop
 have e1:X++(A++x::Y)=(X++A.take s)++(A.drop s++x::Y):=by rw[List.append_assoc,←List.append_assoc (A.take s),List.take_append_drop]
 have h2:=TD (X++A.take s) (A.drop s) x Y (X++(A++x::Y)).length (by rw[← e1]) hl ((X.length+s:Nat):Int) (by rw[aLv,tl])
 rw[← e1,show(X++A.take s).length=X.length+s by rw[aLv,tl],dl,show X.length+s+(A.length-s)=X.length+A.length by omega]at h2
 refine⟨A.take s++x::A.drop s,?_,?_,aE K.bC rfl ?_⟩
 · have:(A.take s++x::A.drop s).Perm (x::(A.take s++A.drop s)):=List.perm_middle
   rw[← eA]at this
   exact this.trans (List.perm_append_comm (l₁:=[x]))
 · refine Bz (CO so s) (List.pairwise_cons.2 ⟨fun y hy=>?_,CP so s⟩) fun b hb y hy=>?_
   · obtain⟨i,i1,i2,rfl⟩:=oT hy
     have k:=GI (s3.resolve_left (by omega))
     exact j6 k (kg so i1 i2)
   · obtain⟨i,i1,i2,rfl⟩:=sG hb
     have k:leW (nth A (s-1)) x:=s2.resolve_left (by omega)
     have bx:=j6 (kg so (show i≤s-1 by omega) (by omega)) k
     rcases List.mem_cons.1 hy with rfl | hy
     · exact bx
     · obtain⟨j,j1,j2,rfl⟩:=oT hy
       exact kg so (by omega) j2
 · have e2:X++(A.take s++x::A.drop s)++Y=X++A.take s++x::(A.drop s++Y):=by simp
   rw[e2]
   have w0:IntKind.i64.wrap (((X.length+A.length:Nat):Int)-X.length)=A.length:=by
    rw[show((X.length+A.length:Nat):Int)-X.length=(A.length:Int)by omega];exact bz (by omega) (by omega)
   have n0:¬(A.length:Int)=1:=by omega
   have w1:IntKind.i64.wrap (((X.length+A.length+1:Nat):Int)-((X.length+A.length:Nat):Int))=1:=by
    rw[show((X.length+A.length+1:Nat):Int)-((X.length+A.length:Nat):Int)=(1:Int)by omega];exact bz (by omega) (by omega)
   clear e0 e1 e2 eA s2 s3
   generalize X++A.take s++x::(A.drop s++Y)=L2 at*
   generalize X++(A++x::Y)=L at*
   generalize ((X.length+A.length+1:Nat):Int)=bb at*
   generalize ((X.length+A.length:Nat):Int)=mm at*
   generalize ((X.length+s:Nat):Int)=xs at*
   simp only[wD]at*
   simp(disch:=omega)only[go_sem,K.aa,↓reduceIte,w0,w1,n0,h1,h2,decide_true,decide_false,reduceAdd,reduceSub]
def kh(L L2:List World)(a m b:Nat):Prop:=aS 0 N.aa [.ref 0 0 L.length,I a,I m,I b,.fn N.af []] [.arr 2 false 0 (List.map D.t (List.map World.e L))]=some (.tup [],[.arr 2 false 0 (List.map D.t (List.map World.e L2))])
theorem GJ{n:Nat}(ih:∀(X A B Y:List World),A.length+B.length≤n→A≠[]→B≠[]→kf A→kf B→(∀w∈X++A++B++Y,w.sz)→(X++A++B++Y).length≤1000→∃C,C.Perm (A++B)∧kf C∧kh (X++A++B++Y) (X++C++Y) X.length (X.length+A.length) (X.length+A.length+B.length))
 (X A B Y:List World) (hn:A.length+B.length≤n) (sa:kf A) (sb:kf B) (hz:∀w∈X++A++B++Y,w.sz) (hl:(X++A++B++Y).length≤1000):
 ∃C:List World,C.Perm (A++B)∧kf C∧((A.length=0∨B.length=0)→X++C++Y=X++A++B++Y)∧(0<A.length→0<B.length→kh (X++A++B++Y) (X++C++Y) X.length (X.length+A.length) (X.length+A.length+B.length)):=by
 by_cases c:A.length=0∨B.length=0
 · refine⟨A++B,List.Perm.refl _,?_,fun _=>by simp,fun h1 h2=>by omega⟩
   rcases c with c | c
   · rw[List.length_eq_zero_iff.1 c];exact sb
   · rw[List.length_eq_zero_iff.1 c,List.append_nil];exact sa
 · obtain⟨C,c1,c2,c3⟩:=ih X A B Y hn (fun e=>c (.inl (by rw[e];rfl))) (fun e=>c (.inr (by rw[e];rfl))) sa sb hz hl
   exact⟨C,c1,c2,fun h=>absurd h c,fun _ _=>c3⟩
def EB:C→C
 | .seq a _=>a
 | c=>c
def mL:C→C
 | .seq _ b=>b
 | c=>c
theorem zO(L L1 L2 L3:List World)(a m b mid start en s0 t0:Nat)(l1:L1.length=L.length)(l2:L2.length=L.length)(l3:L3.length=L.length)(hb:b≤1000)(am:a+2≤m)(mb:m+2≤b)(hmid:mid=(a+b) / 2)(pv:Nat)(hpv:pv+1=mid+m)(hen:en+start=mid+m)(en1:m≤en)(en2:en≤b)(st1:a≤start)(st2:start≤m)
 (s0d:(if m>mid then mid+m-b else a)=s0) (t0d:(if m>mid then mid else m)=t0)
 (h5:exS aS K.cZ ⟨[.ref 0 0 L.length,I a,I m,I b,.fn N.af [],.und,.und,.und,.und,.und,.und,.und,.und,I mid,I ((mid+m:Nat):Int),I s0,I t0,I pv,.und,.und],[.arr 2 false 0 (List.map D.t (List.map World.e L))]⟩=
  some (.exit 8,⟨[.ref 0 0 L.length,I a,I m,I b,.fn N.af [],.und,.und,.und,.und,.und,.und,.und,.und,I mid,I ((mid+m:Nat):Int),I start,I start,I pv,.und,.und],[.arr 2 false 0 (List.map D.t (List.map World.e L))]⟩))
 (hr:start<m→m<en→aS 0 N.aL [.ref 0 0 L.length,I start,I m,I en,.fn N.af []] [.arr 2 false 0 (List.map D.t (List.map World.e L))]=some (.tup [],[.arr 2 false 0 (List.map D.t (List.map World.e L1))]))
 (hr0:¬(start<m∧m<en)→L1=L)
 (h1:a<start→start<mid→kh L1 L2 a start mid) (h10:¬(a<start∧start<mid)→L2=L1)
 (h2:mid<en→en<b→kh L2 L3 mid en b) (h20:¬(mid<en∧en<b)→L3=L2):kh L L3 a m b:=by
 unfold kh at*
 refine aE K.bC rfl ?_
 obtain⟨w1,w2,w3⟩:=rO a b (by omega)
 rw[← hmid]at w3
 have w4:IntKind.i64.wrap ((m:Int)-a)=(m:Int)-a:=bz (by omega) (by omega)
 have w5:IntKind.i64.wrap ((b:Int)-m)=(b:Int)-m:=bz (by omega) (by omega)
 have n4:¬(m:Int)-a=1:=by omega
 have n5:¬(b:Int)-m=1:=by omega
 have w6:IntKind.i64.wrap ((mid:Int)+m)=((mid+m:Nat):Int):=by
  rw[show(mid:Int)+m=((mid+m:Nat):Int)by omega];exact bz (by omega) (by omega)
 have w8:IntKind.i64.wrap (((mid+m:Nat):Int)-1)=(pv:Int):=by
  rw[show((mid+m:Nat):Int)-1=(pv:Int)by omega];exact bz (by omega) (by omega)
 have w9:IntKind.i64.wrap (((mid+m:Nat):Int)-(start:Int))=(en:Int):=by
  rw[show((mid+m:Nat):Int)-(start:Int)=(en:Int)by omega];exact bz (by omega) (by omega)
 have ge:∀x y:Nat,¬x<y→¬(x:Int)<(y:Int):=fun x y h=>by omega
 have p1:exS aS (EB (mL (mL (mL (mL (mL (mL (mL (mL (mL K.aa.body)))))))))) ⟨[.ref 0 0 L.length,I a,I m,I b,.fn N.af [],.und,.und,.und,.und,.und,.und,.und,.und,I mid,I ((mid+m:Nat):Int),I start,I start,I pv,.und,I en],[.arr 2 false 0 (List.map D.t (List.map World.e L))]⟩=
  some (.normal,⟨[.ref 0 0 L.length,I a,I m,I b,.fn N.af [],.und,.und,.und,.und,.und,.und,.und,.und,I mid,I ((mid+m:Nat):Int),I start,I start,I pv,.und,I en],[.arr 2 false 0 (List.map D.t (List.map World.e L1))]⟩):=by
  clear h5 w1 w2 w3 w4 w5 n4 n5 w6 w8 w9 s0d t0d h1 h10 h2 h20 hpv hen hmid
  by_cases c1:start<m
  · by_cases c2:m<en
    · have hr:=hr c1 c2
      simp(disch:=omega)only[go_sem,K.aa,↓reduceIte,hr,EB,mL,decide_true,reduceAdd,reduceSub]
    · rw[hr0 (fun h=>c2 h.2)]at*
      simp(disch:=omega)only[go_sem,K.aa,↓reduceIte,EB,mL,decide_true,reduceAdd,reduceSub]
  · rw[hr0 (fun h=>c1 h.1)]at*
    simp(disch:=omega)only[go_sem,K.aa,↓reduceIte,EB,mL,decide_false,reduceAdd,reduceSub]
 have p2:exS aS (EB (mL (mL (mL (mL (mL (mL (mL (mL (mL (mL K.aa.body))))))))))) ⟨[.ref 0 0 L.length,I a,I m,I b,.fn N.af [],.und,.und,.und,.und,.und,.und,.und,.und,I mid,I ((mid+m:Nat):Int),I start,I start,I pv,.und,I en],[.arr 2 false 0 (List.map D.t (List.map World.e L1))]⟩=
  some (.normal,⟨[.ref 0 0 L.length,I a,I m,I b,.fn N.af [],.und,.und,.und,.und,.und,.und,.und,.und,I mid,I ((mid+m:Nat):Int),I start,I start,I pv,.und,I en],[.arr 2 false 0 (List.map D.t (List.map World.e L2))]⟩):=by
  clear h5 w1 w2 w3 w4 w5 n4 n5 w6 w8 w9 s0d t0d hr hr0 h2 h20 hpv hen hmid p1
  by_cases c1:a<start
  · by_cases c2:start<mid
    · have h1:=h1 c1 c2
      rw[l1]at h1
      simp(disch:=omega)only[go_sem,K.aa,↓reduceIte,h1,l1,EB,mL,decide_true,reduceAdd,reduceSub]
    · rw[h10 (fun h=>c2 h.2)]
      simp(disch:=omega)only[go_sem,K.aa,↓reduceIte,EB,mL,decide_true,reduceAdd,reduceSub]
  · rw[h10 (fun h=>c1 h.1)]
    simp(disch:=omega)only[go_sem,K.aa,↓reduceIte,EB,mL,decide_false,reduceAdd,reduceSub]
 have p3:exS aS (mL (mL (mL (mL (mL (mL (mL (mL (mL (mL (mL K.aa.body))))))))))) ⟨[.ref 0 0 L.length,I a,I m,I b,.fn N.af [],.und,.und,.und,.und,.und,.und,.und,.und,I mid,I ((mid+m:Nat):Int),I start,I start,I pv,.und,I en],[.arr 2 false 0 (List.map D.t (List.map World.e L2))]⟩=
  some (.normal,⟨[.ref 0 0 L.length,I a,I m,I b,.fn N.af [],.und,.und,.und,.und,.und,.und,.und,.und,I mid,I ((mid+m:Nat):Int),I start,I start,I pv,.und,I en],[.arr 2 false 0 (List.map D.t (List.map World.e L3))]⟩):=by
  clear h5 w1 w2 w3 w4 w5 n4 n5 w6 w8 w9 s0d t0d hr hr0 h1 h10 hpv hen hmid p1 p2
  by_cases c1:mid<en
  · by_cases c2:en<b
    · have h2:=h2 c1 c2
      rw[l2]at h2
      simp(disch:=omega)only[go_sem,K.aa,↓reduceIte,h2,l2,EB,mL,decide_true,reduceAdd,reduceSub]
    · rw[h20 (fun h=>c2 h.2)]
      simp(disch:=omega)only[go_sem,K.aa,↓reduceIte,EB,mL,decide_true,reduceAdd,reduceSub]
  · rw[h20 (fun h=>c1 h.1)]
    simp(disch:=omega)only[go_sem,K.aa,↓reduceIte,EB,mL,decide_false,reduceAdd,reduceSub]
 simp only[EB,mL,K.aa]at p1 p2 p3
 clear hr hr0 h1 h10 h2 h20 ge
 by_cases c:m>mid
 · rw[if_pos c]at s0d t0d
   subst s0d t0d
   have w7:IntKind.i64.wrap (((mid+m:Nat):Int)-(b:Int))=((mid+m-b:Nat):Int):=by
    rw[show((mid+m:Nat):Int)-(b:Int)=((mid+m-b:Nat):Int)by omega];exact bz (by omega) (by omega)
   have ci:(m:Int)>mid:=by omega
   clear hpv hen hmid
   generalize ((mid+m-b:Nat):Int)=sv at*
   generalize ((mid+m:Nat):Int)=nv at*
   generalize a+b=ab at*
   simp(disch:=omega)only[go_sem,K.aa,↓reduceIte,w1,w2,w3,w4,w5,n4,n5,w6,w7,w8,w9,ci,h5,p1,p2,p3,decide_true,decide_false,reduceAdd,reduceSub]
 · rw[if_neg c]at s0d t0d
   subst s0d t0d
   have ci:¬(m:Int)>mid:=by omega
   clear hpv hen hmid
   generalize ((mid+m:Nat):Int)=nv at*
   generalize a+b=ab at*
   simp(disch:=omega)only[go_sem,K.aa,↓reduceIte,w1,w2,w3,w4,w5,n4,n5,w6,w8,w9,ci,h5,p1,p2,p3,decide_true,decide_false,reduceAdd,reduceSub]
set_option maxHeartbeats 1600000 in
theorem BA:∀(n:Nat) (X A B Y:List World),A.length+B.length≤n→A≠[]→B≠[]→kf A→kf B→(∀w∈X++A++B++Y,w.sz)→(X++A++B++Y).length≤1000→∃C,C.Perm (A++B)∧kf C∧kh (X++A++B++Y) (X++C++Y) X.length (X.length+A.length) (X.length+A.length+B.length):=by
 intro n
 induction n with
 | zero=>
   intro X A B Y h hA
   have:=List.length_pos_iff.2 hA
   omega
 | succ n ih=>
   intro X A B Y hn hA hB sa sb hz hl
   have p0:=List.length_pos_iff.2 hA
   have q0:=List.length_pos_iff.2 hB
   have hlen:X.length+A.length+B.length+Y.length≤1000:=by simp at hl;omega
   by_cases p1:A.length=1
   · match A,p1 with
     | [x],_=>exact N7 X x B Y hB sb hz hl
   · by_cases q1:B.length=1
     · match B,q1 with
       | [x],_=>exact N8 X A x Y (by omega) sa hz hl
     · obtain⟨h,hh⟩:∃h,h=(A.length+B.length) / 2:=⟨_,rfl⟩
       obtain⟨s0,hs0⟩:∃s0,s0=if A.length>h then h-B.length else 0:=⟨_,rfl⟩
       obtain⟨t0,ht0⟩:∃t0,t0=if A.length>h then h else A.length:=⟨_,rfl⟩
       have bnd:t0≤h∧t0≤A.length∧s0≤t0∧h≤s0+B.length∧(s0=0∨h=s0+B.length)∧(t0=A.length∨t0=h):=by
        rw[hs0,ht0];split<;>omega
       obtain⟨b1,b2,b3,b4,b5,b6⟩:=bnd
       have e0:X++A++B++Y=X++(A++(B++Y)):=by simp
       obtain⟨q,h5,s,s1,s2,s3,s4,rfl⟩:=TE X A B Y (X++A++B++Y) e0 (fun w hw=>hz w (by simp[hw])) (fun w hw=>hz w (by simp[hw])) hl h s0 t0 (X.length+(X.length+A.length)+h-1) b1 b2 b3 b4 (by omega) X.length ((X.length+A.length:Nat):Int) ((X.length+A.length+B.length:Nat):Int) ((X.length+h:Nat):Int) ((X.length+h+(X.length+A.length):Nat):Int) .und .und .und .und .und .und .und .und .und .und
       have o1:X.length+A.length+B.length≤1000:=by omega
       have o2:X.length+2≤X.length+A.length:=by omega
       have o3:X.length+A.length+2≤X.length+A.length+B.length:=by omega
       have o4:X.length+A.length≤X.length+A.length+(h-s):=by omega
       have o5:X.length+A.length+(h-s)≤X.length+A.length+B.length:=by omega
       have o6:X.length≤X.length+s:=by omega
       have o7:X.length+s≤X.length+A.length:=by omega
       have la1:(A.take s).length=s:=by rw[List.length_take];omega
       have la2:(A.drop s).length=A.length-s:=List.length_drop
       have lb1:(B.take (h-s)).length=h-s:=by rw[List.length_take];omega
       have lb2:(B.drop (h-s)).length=B.length-(h-s):=List.length_drop
       have eA:A.take s++A.drop s=A:=List.take_append_drop _ _
       have eB:B.take (h-s)++B.drop (h-s)=B:=List.take_append_drop _ _
       have mz:∀w,w∈X∨w∈A∨w∈B∨w∈Y→w.sz:=fun w hw=>hz w (by simp only[List.mem_append];rcases hw with a | a | a | a<;>simp[a])
       have f1:∀x∈A.take s,∀y∈B.drop (h-s),leW x y:=fun x hx y hy=>by
        obtain⟨i,i1,i2,rfl⟩:=sG hx
        obtain⟨j,j1,j2,rfl⟩:=oT hy
        rcases s3 with k | k
        · omega
        · exact j6 (j6 (kg sa (show i≤s-1 by omega) (by omega)) (show leW (nth A (s-1)) (nth B (h-s))from k)) (kg sb j1 j2)
       have f2:∀x∈B.take (h-s),∀y∈A.drop s,leW x y:=fun x hx y hy=>by
        obtain⟨i,i1,i2,rfl⟩:=sG hx
        obtain⟨j,j1,j2,rfl⟩:=oT hy
        rcases s4 with k | k
        · omega
        · exact j6 (j6 (kg sb (show i≤h-1-s by omega) (by omega)) (GI k)) (kg sa j1 j2)
       have f3:∀x∈A.take s,∀y∈A.drop s,leW x y:=fun x hx y hy=>by
        obtain⟨i,i1,i2,rfl⟩:=sG hx
        obtain⟨j,j1,j2,rfl⟩:=oT hy
        exact kg sa (by omega) j2
       have f4:∀x∈B.take (h-s),∀y∈B.drop (h-s),leW x y:=fun x hx y hy=>by
        obtain⟨i,i1,i2,rfl⟩:=sG hx
        obtain⟨j,j1,j2,rfl⟩:=oT hy
        exact kg sb (by omega) j2
       have mA1:∀w,w∈A.take s→w∈A:=fun w hw=>List.mem_of_mem_take hw
       have mA2:∀w,w∈A.drop s→w∈A:=fun w hw=>List.mem_of_mem_drop hw
       have mB1:∀w,w∈B.take (h-s)→w∈B:=fun w hw=>List.mem_of_mem_take hw
       have mB2:∀w,w∈B.drop (h-s)→w∈B:=fun w hw=>List.mem_of_mem_drop hw
       obtain⟨C1,c1,c2,c3,c4⟩:=GJ ih X (A.take s) (B.take (h-s)) (A.drop s++B.drop (h-s)++Y) (by omega) (CO sa s) (CO sb (h-s)) (fun w hw=>mz w (by
        simp only[List.mem_append]at hw
        rcases hw with((a | a) | a) | ((a | a) | a)
        · exact .inl a
        · exact .inr (.inl (mA1 w a))
        · exact .inr (.inr (.inl (mB1 w a)))
        · exact .inr (.inl (mA2 w a))
        · exact .inr (.inr (.inl (mB2 w a)))
        · exact .inr (.inr (.inr a)))) (by simp only[aLv];omega)
       have lc1:C1.length=h:=by rw[c1.length_eq,aLv];omega
       obtain⟨C2,d1,d2,d3,d4⟩:=GJ ih (X++C1) (A.drop s) (B.drop (h-s)) Y (by omega) (CP sa s) (CP sb (h-s)) (fun w hw=>mz w (by
        simp only[List.mem_append]at hw
        rcases hw with(((a | a) | a) | a) | a
        · exact .inl a
        · have:=c1.mem_iff.1 a
          rcases List.mem_append.1 this with a | a
          · exact .inr (.inl (mA1 w a))
          · exact .inr (.inr (.inl (mB1 w a)))
        · exact .inr (.inl (mA2 w a))
        · exact .inr (.inr (.inl (mB2 w a)))
        · exact .inr (.inr (.inr a)))) (by simp only[aLv];omega)
       have lc2:C2.length=A.length-s+(B.length-(h-s)):=by rw[d1.length_eq,aLv];omega
       refine⟨C1++C2,?_,Bz c2 d2 fun x hx y hy=>?_,?_⟩
       · refine(c1.append d1).trans ?_
         have:(A.take s++B.take (h-s)++(A.drop s++B.drop (h-s))).Perm ((A.take s++A.drop s)++(B.take (h-s)++B.drop (h-s))):=by
          rw[List.append_assoc,List.append_assoc]
          refine List.Perm.append_left _ ?_
          rw[← List.append_assoc,←List.append_assoc]
          exact List.Perm.append_right _ List.perm_append_comm
         rw[eA,eB]at this
         exact this
       · rcases List.mem_append.1 (c1.mem_iff.1 hx)with a | a<;>rcases List.mem_append.1 (d1.mem_iff.1 hy)with b | b
         · exact f3 x a y b
         · exact f1 x a y b
         · exact f2 x a y b
         · exact f4 x a y b
       · have eL3:X++(C1++C2)++Y=(X++C1)++C2++Y:=by simp
         have eL2:X++C1++(A.drop s++B.drop (h-s)++Y)=(X++C1)++A.drop s++B.drop (h-s)++Y:=by simp
         have eL:X++A++B++Y=(X++A.take s)++A.drop s++B.take (h-s)++(B.drop (h-s)++Y):=by
          rw[List.append_assoc X (A.take s) (A.drop s),eA,←List.append_assoc (X++A++B.take (h-s)),List.append_assoc (X++A) (B.take (h-s)) (B.drop (h-s)),eB]
         have eL1:X++A.take s++B.take (h-s)++(A.drop s++B.drop (h-s)++Y)=(X++A.take s)++B.take (h-s)++A.drop s++(B.drop (h-s)++Y):=by simp
         rw[eL3]
         have g1:(X++A.take s++B.take (h-s)++(A.drop s++B.drop (h-s)++Y)).length=(X++A++B++Y).length:=by simp only[aLv];omega
         have g2:(X++C1++(A.drop s++B.drop (h-s)++Y)).length=(X++A++B++Y).length:=by simp only[aLv];omega
         have g3:((X++C1)++C2++Y).length=(X++A++B++Y).length:=by simp only[aLv];omega
         have g4:X.length+h=(X.length+(X.length+A.length+B.length)) / 2:=by omega
         have g5:X.length+(X.length+A.length)+h-1+1=X.length+h+(X.length+A.length):=by omega
         have g6:X.length+A.length+(h-s)+(X.length+s)=X.length+h+(X.length+A.length):=by omega
         have g7:(if X.length+A.length>X.length+h then X.length+h+(X.length+A.length)-(X.length+A.length+B.length)else X.length)=X.length+s0:=by
          rw[hs0];split<;>split<;>omega
         have g8:(if X.length+A.length>X.length+h then X.length+h else X.length+A.length)=X.length+t0:=by
          rw[ht0];split<;>split<;>omega
         refine zO (X++A++B++Y) (X++A.take s++B.take (h-s)++(A.drop s++B.drop (h-s)++Y)) (X++C1++(A.drop s++B.drop (h-s)++Y)) ((X++C1)++C2++Y) X.length (X.length+A.length) (X.length+A.length+B.length) (X.length+h) (X.length+s) (X.length+A.length+(h-s)) (X.length+s0) (X.length+t0)
          g1 g2 g3 o1 o2 o3 g4 (X.length+(X.length+A.length)+h-1) g5 g6 o4 o5 o6 o7 g7 g8 h5 ?_ ?_ ?_ ?_ ?_ ?_
         · intro k1 k2
           have rt:=GH (X++A.take s) (A.drop s) (B.take (h-s)) (B.drop (h-s)++Y) (fun e=>by rw[e]at la2;simp at la2;omega) (fun e=>by rw[e]at lb1;simp at lb1;omega) (by rw[← eL];exact hl)
           rw[← eL,←eL1,show(X++A.take s).length=X.length+s by rw[aLv,la1],la2,lb1,show X.length+s+(A.length-s)=X.length+A.length by omega]at rt
           exact rt
         · intro k
           have:A.drop s=[]∨B.take (h-s)=[]:=by
            rcases Nat.lt_or_ge s A.length with u | u
            · exact .inr (List.length_eq_zero_iff.1 (by omega))
            · exact .inl (List.length_eq_zero_iff.1 (by omega))
           rw[eL,eL1]
           rcases this with u | u<;>rw[u]<;>simp
         · intro k1 k2
           have:=c4 (by omega) (by omega)
           rw[la1,lb1,show X.length+s+(h-s)=X.length+h by omega]at this
           exact this
         · intro k
           exact c3 (by omega)
         · intro k1 k2
           have:=d4 (by omega) (by omega)
           rw[← eL2,aLv,lc1,la2,lb2,show X.length+h+(A.length-s)=X.length+A.length+(h-s)by omega,show X.length+A.length+(h-s)+(B.length-(h-s))=X.length+A.length+B.length by omega]at this
           exact this
         · intro k
           rw[eL2]
           exact d3 (by omega)
end Go.Ev
