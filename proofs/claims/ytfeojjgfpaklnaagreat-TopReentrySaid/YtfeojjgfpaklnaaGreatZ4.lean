/- Parts of the proof: see the text that holds the theorem. -/
import Derived.Test.YtfeojjgfpaklnaaGreatZ3
set_option linter.all false
open Nat (reduceAdd reduceSub)
set_option maxRecDepth 100000
namespace Go.Ev.K
open Go.Ev
def mN:C:= (.its [u (.bin .lss v8 v7)] [] 0 .skip (.exit 0) (.seq (.blk 1 (q [a 2 v6 v8,h 2 l0,w 3 (.al [z0,z1] []),u (.st l0 l1 2 [])] [] (.ite [f 0 v3,g l0,u (.bin .lss l0 (.i (-10000))),m l0,y 0 false (.fa v3 0),i 1 false l0,y 2 false (.bin .gtr l0 (.i 10000)),u (.pk l3 (.b true) l0)] [] 0 (q [x 2 (.i 1)] [] .ret) .skip))) (.reg [u (.bin .add v8 (.i 1)),x 8 l0] [])))
def sj:C:= .loop true [0,2,3,4,5,9,10,11] K.mN
def mO:C:= (.its [u (.bin .lss v11 v10)] [] 0 .skip (.exit 2) (.seq (.blk 3 (q [a 10 v9 v11,h 10 l0,w 5 (.al [z0,z0,z0,z0,z1,z1,z0,z0,z0,z0] []),u (.st l0 l1 10 [])] [] (.seq (.ite [f 0 v5,g l0,u (.bin .lss l0 (.i 0)),m l0,y 0 false (.fa v5 0),i 1 false l0,e 2 false v4,y 3 false (.bin .geq l1 l0),u (.pk l4 (.b true) l0),m l0,y 0 false (.fa v5 1),i 1 false l0,y 2 false (.bin .lss l0 (.i 0)),u (.pk l3 (.b true) l0),m l0,y 0 false (.fa v5 1),i 1 false l0,e 2 false v4,y 3 false (.bin .geq l1 l0),u (.pk l4 (.b true) l0),m l0,y 0 false (.fa v5 0),i 1 false l0,y 2 false (.fa v5 1),i 3 false l0,y 4 false (.bin .eql l2 l0),u (.pk l5 (.b true) l0)] [] 0 (q [x 2 (.i 4)] [] .ret) .skip) (.seq (.ite [f 2 v5,g l0,u (.bin .lss l0 (.i 1)),m l0,y 0 false (.fa v5 2),i 1 false l0,y 2 false (.bin .gtr l0 (.i 100000)),u (.pk l3 (.b true) l0),m l0,y 0 false (.fa v5 3),i 1 false l0,y 2 false (.bin .lss l0 (.i 1)),u (.pk l3 (.b true) l0),m l0,y 0 false (.fa v5 3),i 1 false l0,y 2 false (.bin .gtr l0 (.i 1000)),u (.pk l3 (.b true) l0)] [] 0 (q [x 2 (.i 1)] [] .ret) .skip) (.ite [f 6 v5,h 2 l0,u (.ca N.eF 0 [] [.l 0,.i 1,.i 262144]),u (.un .not l0),m l0,y 0 false (.fa v5 8),y 1 false (.ld l0 2 true),y 2 false (.ca N.eF 0 [] [.l 0,.i (-2199023255552),.i 2199023255552]),y 3 false (.un .not l0),u (.pk l4 (.b true) l0)] [] 0 (q [x 2 (.i 1)] [] .ret) .skip))))) (.reg [u (.bin .add v11 (.i 1)),x 11 l0] [])))
def sk:C:= .loop true [0,1,2,3,5,6,7,8] K.mO
def gO:Fn:= { av:=1,vars:=[0,1,2,4,5,7,19,20,21,38,39,40],body:=(q [w 1 (.bx v0 2),x 2 (.i 0)] [] (.seq (.ite [f 0 v1,g l0,u (.ln l0),u (.bin .gtr l0 (.i 64)),m l0,y 0 false (.fa v1 1),i 1 false l0,y 2 false (.ln l0),y 3 false (.bin .gtr l0 (.i 128)),u (.pk l4 (.b true) l0)] [] 0 (q [x 2 (.i 2)] [] .ret) .skip) (.seq (q [f 0 v1,w 6 (.ld l0 1 false),w 7 (.ln l0),x 8 (.i 0)] [] (.blk 0 K.sj)) (q [f 0 v1,g l0,u (.ln l0),x 4 l0] [] (.seq (q [f 1 v1,w 9 (.ld l0 1 false),w 10 (.ln l0),x 11 (.i 0)] [] (.blk 2 K.sk)) (q [x 2 (.i 0)] [] .ret)))))),res:=[(2,none)]}
def bF:C:= (.its [u (.bin .lss v5 v4)] [] 0 .skip (.exit 0) (.seq (.blk 1 (q [m v5,x 3 l0] [] (.ite [m v1,m v0,m v3,a 2 l1 l0,h 2 l0,u (.cw l4 0 [] [.l 0])] [] 0 (q [m v3,x 2 l0] [] .ret) .skip))) (.reg [u (.bin .add v5 (.i 1)),x 5 l0] [])))
def dV:C:= .loop true [2,3] K.bF
def aJ:Fn:= { av:=2,vars:=[0,1,4,5,7,8],body:=(q [x 2 (.i 0)] [] (.seq (q [m v0,w 4 (.ln l0),x 5 (.i 0)] [] (.blk 0 K.dV)) (q [w 2 (.mv (.i (-1)))] [] .ret))),res:=[(2,none)]}
def dF:Fn:= { av:=2,vars:=[0,1,4,5,6,7,8,9,10,11,12,13],body:=(q [w 2 (.mv (.c (.t (.int .u64 (0))))),w 3 (.mv (.c (.t (.int .u64 (0)))))] [] (q [m v0,u (.bin .and l0 (.c (.t (.int .u64 (4294967295))))),x 4 l0] [] (q [m v0,u (.bin .shr l0 (.c (.t (.int .u64 (32))))),x 5 l0] [] (q [m v1,u (.bin .and l0 (.c (.t (.int .u64 (4294967295))))),x 6 l0] [] (q [m v1,u (.bin .shr l0 (.c (.t (.int .u64 (32))))),x 7 l0] [] (q [m v4,m v6,u (.bin .mul l1 l0),x 8 l0] [] (q [m v5,m v6,u (.bin .mul l1 l0),m v8,u (.bin .shr l0 (.c (.t (.int .u64 (32))))),u (.bin .add l2 l0),x 9 l0] [] (q [m v9,u (.bin .and l0 (.c (.t (.int .u64 (4294967295))))),x 10 l0] [] (q [m v9,u (.bin .shr l0 (.c (.t (.int .u64 (32))))),x 11 l0] [] (q [m v10,m v4,m v7,u (.bin .mul l1 l0),u (.bin .add l3 l0),x 10 l0] [] (q [m v5,m v7,u (.bin .mul l1 l0),m v11,u (.bin .add l1 l0),m v10,u (.bin .shr l0 (.c (.t (.int .u64 (32))))),u (.bin .add l2 l0),x 2 l0] [] (q [m v0,m v1,u (.bin .mul l1 l0),x 3 l0] [] .ret)))))))))))),res:=[(2,none),(3,none)]}
def eF:Fn:= { av:=3,vars:=[0,1,2,3,6],body:=(q [w 3 (.bx v0 2),x 4 (.b false)] [] (q [m v1,f 0 v3,g l0,u (.bin .leq l2 l0),m l0,y 0 true (.fa v3 0),i 1 true l0,y 2 true (.fa v3 1),i 3 true l0,y 4 true (.bin .leq l2 l0),u (.pk l5 l0 (.b false)),m l0,y 0 true (.fa v3 1),i 1 true l0,e 2 true v2,y 3 true (.bin .leq l1 l0),u (.pk l4 l0 (.b false)),x 4 l0] [] .ret)),res:=[(4,none)]}
end Go.Ev.K
namespace Go.Ev
class i5 [Lib]:Prop where
 pj:Lib.fs N.gO=some K.gO
 cq:Lib.fs N.aJ=some K.aJ
 m6:Lib.fs N.dF=some K.dF
 nT:Lib.fs N.eF=some K.eF
namespace K
variable [Lib] [i5]
theorem pj:Lib.fs N.gO=some K.gO:=i5.pj
theorem cq:Lib.fs N.aJ=some K.aJ:=i5.cq
theorem m6:Lib.fs N.dF=some K.dF:=i5.m6
theorem nT:Lib.fs N.eF=some K.eF:=i5.nT
end K
end Go.Ev
namespace Go.Ev
open Go
variable [Lib] [dt] [dm] [gY] [i5]
section
variable (H : aj) (sz : Nat)
def Nk(id ep n lo hi:Nat)(ys:List D):Option Obj→Option (D×aj)
 | some (.arr sz' pin ep' es)=>if ep=ep'∧n=es.length then N0 H id ep (sz',pin,es) lo hi ys sz else none
 | _=>none
def cpD(x:D)(ys:List D):Option (D×aj):=if bM sz ys=true then(match x with
 | .ref id ep n=>Nk H sz id ep n 0 n ys H[id]?
 | .sub id ep n lo hi=>Nk H sz id ep n lo hi ys H[id]?
 | _=>none)else none
def aaB(x y:Option D):Option (D×aj):=x.bind fun a=>y.bind fun b=>yv H a b sz
@[go_sem] theorem afw (call : aR) (get : X → Option D) (x y : X) : evO call get H (.cp x y sz) = aaB H sz (get x) (get y) := (rfl)
theorem Fi(x y:D)(ys:List D)(h:elems H y=some ys):yv H x y sz=cpD H sz x ys:=by
 unfold yv cpD
 rw[h,aLq]
 split
 · rename_i hh
   cases x with
   | ref id ep n=>
     simp only[fT,Nk]
     cases H[id]? with
     | none=>rfl
     | some o=>
       cases o with
       | box cs=>rfl
       | own ep=>rfl
       | arr sz' pin ep' es=>
         simp only
         by_cases c:ep=ep'∧n=es.length
         · rw[if_pos c,if_pos c];rfl
         · rw[if_neg c,if_neg c];rfl
   | sub id ep n lo hi=>
     simp only[fT,Nk]
     cases H[id]? with
     | none=>rfl
     | some o=>
       cases o with
       | box cs=>rfl
       | own ep=>rfl
       | arr sz' pin ep' es=>
         simp only
         by_cases c:ep=ep'∧n=es.length
         · rw[if_pos c,if_pos c];rfl
         · rw[if_neg c,if_neg c];rfl
   | _=>rfl
 · rfl
@[go_sem] theorem aeF (x : D) (ts : List T) : aaB H sz (some x) (some (.t (.sl ts))) = cpD H sz x (ts.map .t) := Fi H sz x (.t (.sl ts)) (ts.map .t) rfl
def cpE(x:D)(ep n lo hi:Nat):Option Obj→Option (D×aj)
 | some (.arr _ _ ep' es)=>if ep=ep'∧n=es.length then cpD H sz x ((es.drop lo).take (hi-lo))else none
 | _=>none
@[go_sem] theorem ads (x : D) (n lo hi sz' : Nat) (pin : Bool) (ep : Nat) (es : List D) : cpE H sz x ep n lo hi (some (.arr sz' pin ep es)) = if n = es.length then cpD H sz x ((es.drop lo).take (hi - lo)) else none := by simp [cpE]
@[go_sem] theorem aaC (x : D) (id ep n lo hi : Nat) : aaB H sz (some x) (some (.sub id ep n lo hi)) = cpE H sz x ep n lo hi H[id]? := by
 unfold aaB
 simp only[aLq]
 cases h:H[id]? with
 | none=>simp[yv,elems,fT,h,cpE]
 | some o=>
   cases o with
   | box cs=>simp[yv,elems,fT,h,cpE]
   | own ep=>simp[yv,elems,fT,h,cpE]
   | arr sz' pin ep' es=>
     by_cases c:ep=ep'∧n=es.length
     · rw[Fi H sz x _ ((es.drop lo).take (hi-lo)) (by simp[elems,fT,h,c])]
       simp only[cpE,if_pos c]
     · simp[yv,elems,fT,h,cpE,c]
@[go_sem] theorem adt (id ep n : Nat) (ys : List D) : cpD H sz (.ref id ep n) ys = if bM sz ys = true then Nk H sz id ep n 0 n ys H[id]? else none := (rfl)
@[go_sem] theorem adu (id ep n lo hi : Nat) (ys : List D) : cpD H sz (.sub id ep n lo hi) ys = if bM sz ys = true then Nk H sz id ep n lo hi ys H[id]? else none := (rfl)
@[go_sem] theorem aaD (id n lo hi : Nat) (ys : List D) (ep : Nat) (es : List D) : Nk H sz id ep n lo hi ys (some (.arr sz false ep es)) =
 if n=es.length then(if min ys.length (hi-lo)=0 then some (.t (.int .i64 0),H)else some (.t (.int .i64 ((min ys.length (hi-lo):Nat):Int)),H.set id (.arr sz false ep (es.take lo++ys.take (min ys.length (hi-lo))++es.drop (lo+min ys.length (hi-lo))))))else none:=by
 simp[Nk,N0]
end
end Go.Ev
namespace Go.Ev
open Go
variable [Lib] [dt] [dm] [gY] [i5]
theorem Ck(a b lo hi:Int)(h1:lo≤a)(h2:a≤b)(h3:b≤hi):dn 0 N.eF [.t (.agg [tI a,tI b]),I lo,I hi] []=some (B true,[]):=by
 refine bG K.nT rfl ?_
 simp(disch:=omega)only[go_sem,K.eF,↓reduceIte,reduceAdd,reduceSub]
theorem Cl{m:fJ}(h:m.ok):dn 0 N.gO [.t m.e] []=some (I 0,[]):=by
 refine bG K.pj rfl ?_
 have np:=h.np
 have nr:=h.nr
 have hs:=h.hs
 have rs:=h.rs
 obtain⟨aP,roads⟩:=m
 simp only at np nr hs rs
 have l1:∀z0 z2 z3 z4 z5 z9 z10 z11:D,exS dn K.sj ⟨[z0,.bp 0 0,z2,z3,z4,z5,.t (.sl (aP.map Place.e)),I aP.length,I 0,z9,z10,z11],[.box (aU ⟨aP,roads⟩)]⟩=
  some (.exit 0,⟨[.und,.bp 0 0,.und,.und,.und,.und,.t (.sl (aP.map Place.e)),I aP.length,I aP.length,.und,.und,.und],[.box (aU ⟨aP,roads⟩)]⟩):=by
  intro z0 z2 z3 z4 z5 z9 z10 z11
  refine lj (fun j=>⟨[.und,.bp 0 0,.und,.und,.und,.und,.t (.sl (aP.map Place.e)),I aP.length,I j,.und,.und,.und],[.box (aU ⟨aP,roads⟩)]⟩) aP.length rfl ?_ ?_ (by simp)
  · intro j hj
    have g:(aP.map Place.e)[j]?=some (nth aP j).e:=i4 _ hj
    have q:=hs _ (jo hj)
    generalize nth aP j=x at*
    obtain⟨hh,sf⟩:=x
    simp only[aU]at*
    simp(disch:=omega)only[go_sem,K.mN,↓reduceIte,g,reduceAdd,reduceSub]
  · simp(disch:=omega)only[go_sem,K.mN,↓reduceIte,aU,reduceAdd,reduceSub]
 have l2:∀z0 z1 z2 z3 z5 z6 z7 z8:D,exS dn K.sk ⟨[z0,z1,z2,z3,I aP.length,z5,z6,z7,z8,.t (.sl (roads.map Road.e)),I roads.length,I 0],[.box (aU ⟨aP,roads⟩)]⟩=
  some (.exit 2,⟨[.und,.und,.und,.und,I aP.length,.und,.und,.und,.und,.t (.sl (roads.map Road.e)),I roads.length,I roads.length],[.box (aU ⟨aP,roads⟩)]⟩):=by
  intro z0 z1 z2 z3 z5 z6 z7 z8
  refine lj (fun j=>⟨[.und,.und,.und,.und,I aP.length,.und,.und,.und,.und,.t (.sl (roads.map Road.e)),I roads.length,I j],[.box (aU ⟨aP,roads⟩)]⟩) roads.length rfl ?_ ?_ (by simp)
  · intro j hj
    have g:(roads.map Road.e)[j]?=some (nth roads j).e:=i4 _ hj
    have q:=rs _ (jo hj)
    generalize nth roads j=x at*
    have f0:=q.f0;have f1:=q.f1;have t0:=q.t0;have t1:=q.t1;have ne:=q.ne;have l0:=q.l0;have l1:=q.l1;have a0:=q.a0;have a1:=q.a1
    have r0:=q.r0;have r1:=q.r1;have r2:=q.r2;have i0:=q.i0;have i1:=q.i1;have i2:=q.i2
    clear q
    obtain⟨frm,to,len,area,walk,closed,rl,rh,ll,lh⟩:=x
    simp only[aU]at*
    have s1:=Ck rl rh 1 262144 r0 r1 r2
    have s2:=Ck ll lh (-2199023255552) 2199023255552 i0 i1 i2
    simp(disch:=omega)only[go_sem,K.mO,↓reduceIte,g,s1,s2,reduceAdd,reduceSub]
  · simp(disch:=omega)only[go_sem,K.mO,↓reduceIte,aU,reduceAdd,reduceSub]
 simp only[aU]at l1 l2
 simp(disch:=omega)only[go_sem,K.gO,↓reduceIte,l1,l2,reduceAdd,reduceSub]
theorem uU{m:fJ}(h:m.ok):dn 0 N.bL [.t m.e] []=some (B true,[]):=by
 refine bG K.pf rfl ?_
 have c:=Cl h
 obtain⟨aP,roads⟩:=m
 simp(disch:=omega)only[go_sem,K.bL,↓reduceIte,c,reduceAdd,reduceSub]
end Go.Ev
namespace Go.Ev.N
def Gr:Nat:=178
def Gs:Nat:=179
def Hg:Nat:=180
def Gt:Nat:=181
def Hh:Nat:=182
def Jd:Nat:=183
def Hi:Nat:=184
def QS:Nat:=185
def gr:Nat:=186
def QT:Nat:=187
def Je:Nat:=188
def iq:Nat:=189
def gu:Nat:=190
def Nl:Nat:=191
def Ua:Nat:=192
def LL:Nat:=193
def gw:Nat:=194
def QU:Nat:=195
def Ub:Nat:=196
def X1:Nat:=197
def ef:Nat:=198
def cM:Nat:=199
def gP:Nat:=200
def dX:Nat:=201
def bw:Nat:=202
def Nn:Nat:=203
def ae:Nat:=204
def Jf:Nat:=205
def QV:Nat:=206
def No:Nat:=207
def dG:Nat:=208
def dj:Nat:=209
def dH:Nat:=210
def kM:Nat:=211
def kN:Nat:=212
def kO:Nat:=213
def jF:Nat:=214
end Go.Ev.N
namespace Go.Ev.K
open Go.Ev
def gr:Fn:= { av:=3,vars:=[0,1,2,3,6,7,8],body:=(q [w 3 (.bx v0 2),w 4 (.al [z0,.nil] []),x 5 (.i 0)] [] (.seq (.blk 0 (.ite [h 2 v3,u (.ca N.bL 0 [] [.l 0]),u (.un .not l0),m l0] [] 0 (q [u (.bd [z0,.nil] []),u (.st v4 l0 2 []),x 5 (.i 6)] [] .ret) (.ite [m v1,f 0 v3,g l0,u (.ln l0),u (.bin .sub l0 (.i 1)),u (.ca N.aS 0 [] [.l 4,.i 0,.l 0]),u (.un .not l0),m l0] [] 0 (q [u (.bd [z0,.nil] []),u (.st v4 l0 2 []),x 5 (.i 3)] [] .ret) (.ite [m v2,u (.ca N.aS 0 [] [.l 0,.i 0,.i 2147483648]),u (.un .not l0),m l0] [] 0 (q [u (.bd [z0,.nil] []),u (.st v4 l0 2 []),x 5 (.i 8)] [] .ret) .skip)))) (q [h 2 v3,u (.ca N.ef 1 [] [.l 0]),x 6 l0] [] (q [m v6,m v1,m v2,a 1 l2 l1,u (.st l0 l1 1 [])] [] (q [m v2,h 2 v3,m v6,m v2,u (.ca N.cM 0 [] [.l 2,.l 1,.l 0,.c (.fn N.gP [])]),u (.bd [z0,.nil] [(0,1,.l 4),(1,1,.l 0)]),u (.st v4 l0 2 []),x 5 (.i 0)] [] .ret))))),res:=[(4,some (2,true)),(5,none)]}
def iq:Fn:= { av:=2,vars:=[0,1,2,3,4,5,6,7,8,24,25,26],body:= .fail,res:=[(4,some (2,true)),(5,none)]}
def gu:Fn:= { av:=2,vars:=[0,1,2,3,4],body:=(q [w 2 (.bx v0 2),w 3 (.bx v1 2),x 4 (.b false)] [] (q [h 2 v2,u (.ca N.bL 0 [] [.l 0]),m l0,y 0 true (.ld v2 2 true),y 1 true (.ld v3 2 true),y 2 true (.ca N.dX 0 [] [.l 1,.l 0]),u (.pk l3 l0 (.b false)),m l0,y 0 true (.ld v2 2 true),y 1 true (.fa v3 1),i 2 true l0,y 3 true (.fa v3 0),i 4 true l0,y 5 true (.ca N.cM 0 [] [.l 4,.l 2,.l 0,.c (.fn N.gP [])]),y 6 true (.fa v3 1),i 7 true l0,y 8 true (.ca N.bw 0 [] [.l 2,.l 0]),u (.pk l9 l0 (.b false)),x 4 l0] [(15,6)] .ret)),res:=[(4,none)]}
end Go.Ev.K
namespace Go.Ev
class lJ [Lib]:Prop where
 qt:Lib.fs N.gr=some K.gr
 sm:Lib.fs N.iq=some K.iq
 qu:Lib.fs N.gu=some K.gu
namespace K
variable [Lib] [lJ]
theorem qt:Lib.fs N.gr=some K.gr:=lJ.qt
theorem sm:Lib.fs N.iq=some K.iq:=lJ.sm
theorem qu:Lib.fs N.gu=some K.gu:=lJ.qu
end K
end Go.Ev
namespace Go.Ev.K
open Go.Ev
def gw:Fn:= { av:=3,vars:=[0,1,2,3,4,6,7],body:=(q [w 3 (.bx v0 2),w 4 (.bx v1 2),w 5 (.al [z0,.nil] []),x 6 (.i 0)] [] (.seq (.ite [h 2 v3,u (.ca N.bL 0 [] [.l 0]),u (.un .not l0),m l0,y 0 false (.ld v3 2 true),y 1 false (.ld v4 2 true),y 2 false (.ca N.dX 0 [] [.l 1,.l 0]),y 3 false (.un .not l0),u (.pk l4 (.b true) l0)] [] 0 (q [h 2 v4,u (.st v5 l0 2 []),x 6 (.i 6)] [] .ret) .skip) (.seq (.ite [m v2,f 0 v4,g l0,u (.bin .lss l2 l0),m l0,e 0 false v2,y 1 false (.bin .gtr l0 (.i 2147483648)),u (.pk l2 (.b true) l0)] [] 0 (q [h 2 v4,u (.st v5 l0 2 []),x 6 (.i 8)] [] .ret) .skip) (q [m v2,h 2 v3,f 1 v4,g l0,m v2,u (.ca N.cM 0 [] [.l 3,.l 1,.l 0,.c (.fn N.gP [])]),u (.bd [z0,.nil] [(0,1,.l 5),(1,1,.l 0)]),u (.st v5 l0 2 []),x 6 (.i 0)] [] .ret)))),res:=[(5,some (2,true)),(6,none)]}
def ef:Fn:= { av:=1,vars:=[0,1,2],body:=(q [w 1 (.bx v0 2),w 2 (.mv (.c (.nil)))] [] (q [u (.bs [.i 1099511627776] 1),f 0 v1,g l0,u (.ln l0),u (.ca N.bm 1 [] [.l 3,.l 0]),x 2 l0] [] .ret)),res:=[(2,none)]}
def sn:C:= (.seq (.ite [g v9] [] 0 .skip (.exit 0)) (.seq (.blk 1 (q [u (.st v9 (.b false) 1 [])] [] (.reg [h 2 v4,g v8,u (.mf N.dj [.v 5,.v 8,.v 6,.v 9]),u (.ca N.dG 0 [1] [.l 2,.l 1,.l 0])] []))) (q [w 10 (.ld v9 1 false)] [] (.reg [w 9 (.al [z1] []),u (.st l0 v10 1 [])] []))))
def tO:C:= .loop false [0,1,2,3,7,10] K.sn
def cM:Fn:= { av:=4,vars:=[0,1,2,3,4,6,7,8,9,10,18],body:=(q [w 4 (.bx v0 2),w 5 (.bx v2 1),w 6 (.bx v3 1),w 7 (.mv (.c (.nil)))] [] (q [m v1,u (.ca N.ae 1 [] [.l 0]),w 8 (.al [.nil] []),u (.st l0 l1 1 [])] [] (.seq (q [w 9 (.al [z1] []),u (.st l0 (.b true) 1 [])] [] (.blk 0 K.tO)) (q [g v8,x 7 l0] [] .ret)))),res:=[(7,none)]}
def gP:Fn:= { av:=1,vars:=[2],body:=(q [x 0 (.b false)] [] (q [x 0 (.b true)] [] .ret)),res:=[(0,none)]}
def dX:Fn:= { av:=2,vars:=[0,1,2,3,4],body:=(q [w 2 (.bx v0 2),w 3 (.bx v1 2),x 4 (.b false)] [] (q [f 1 v3,g l0,u (.ln l0),f 0 v2,g l0,u (.ln l0),u (.bin .eql l3 l0),m l0,y 0 true (.fa v3 0),i 1 true l0,y 2 true (.ca N.aS 0 [] [.l 0,.i 0,.i 2147483648]),u (.pk l3 l0 (.b false)),m l0,y 0 true (.fa v3 1),i 1 true l0,y 2 true (.ca N.ai 0 [] [.l 0,.c (.fn N.dH [])]),y 3 true (.un .not l0),u (.pk l4 l0 (.b false)),x 4 l0] [] .ret)),res:=[(4,none)]}
def m7:C:= (.its [u (.bin .lss v5 v4)] [] 0 .skip (.exit 0) (.seq (.blk 1 (q [m v5,x 3 l0] [] (.ite [m v0,m v3,a 1 l1 l0,g l0,m v1,m v3,a 1 l1 l0,g l0,u (.bin .neq l4 l0)] [] 0 (q [x 2 (.b false)] [] .ret) .skip))) (.reg [u (.bin .add v5 (.i 1)),x 5 l0] [])))
def nU:C:= .loop true [2,3] K.m7
def bw:Fn:= { av:=2,vars:=[0,1,4,5,12,13],body:=(q [x 2 (.b false)] [] (.seq (.ite [m v0,u (.ln l0),m v1,u (.ln l0),u (.bin .neq l2 l0)] [] 0 (q [x 2 (.b false)] [] .ret) .skip) (.seq (q [m v0,w 4 (.ln l0),x 5 (.i 0)] [] (.blk 0 K.nU)) (q [x 2 (.b true)] [] .ret)))),res:=[(2,none)]}
def ae:Fn:= { av:=1,vars:=[0,2],body:=(q [w 1 (.mv (.c (.nil)))] [] (.itk [m v0,u (.eqk (.sl) false l0 (.c (.nil)))] [] 0 (q [w 1 (.nw 1)] [] .ret) .skip (q [u (.bsr [] 1),m v0,u (.app l1 l0 false 1),x 1 l0] [] .ret))),res:=[(1,none)]}
def qZ:C:= (.its [u (.bin .lss v14 (.i 2))] [] 0 .skip (.exit 2) (.seq (.blk 3 (q [u (.ix v13 v14 2 1 false),x 6 l0] [] (q [f 0 v5,g l0,f 1 v5,g l0,x 7 l2,x 8 l1] [] (.seq (.ite [m v6] [] 0 (.reg [m v8,m v7,x 7 l1,x 8 l1] []) .skip) (q [h 2 v3,m v4,m v6,u (.ca N.kM 0 [] [.l 2,.l 1,.l 0]),x 9 l0] [] (.ite [m v9,u (.bin .geq l0 (.i 0)),m l0,e 0 true v1,e 1 true v7,y 2 true (.ia l1 l0 1),i 3 true l0,y 4 true (.bin .lss l0 (.i 1099511627776)),u (.pk l5 l0 (.b false))] [] 0 (.reg [m v2,m v7,m v8,m v1,m v7,a 1 l1 l0,g l0,m v9,u (.bin .add l1 l0),u (.cw l8 0 [] [.l 7,.l 6,.l 0])] []) .skip)))))) (.reg [u (.bin .add v14 (.i 1)),x 14 l0] [])))
def sq:C:= .loop true [0,6,7,8,9] K.qZ
def q6:C:= (.its [u (.bin .lss v12 v11)] [] 0 .skip (.exit 0) (.seq (.blk 1 (q [m v12,a 10 v10 v12,h 10 l0,w 5 (.al [z0,z0,z0,z0,z1,z1,z0,z0,z0,z0] []),x 4 l3,u (.st l1 l2 10 [])] [] (q [w 13 (.bd [z1,z1] [(0,1,.b false),(1,1,.b true)]),x 14 (.i 0)] [] (.blk 2 K.sq)))) (.reg [u (.bin .add v12 (.i 1)),x 12 l0] [])))
def sx:C:= .loop true [0,4,5,6,7,8,9,13,14] K.q6
def dG:Fn:= { av:=3,vars:=[0,1,2,3,6,7,9,10,11,12,14,15,16,21,22],body:=(q [w 3 (.bx v0 2)] [] (q [f 1 v3,w 10 (.ld l0 1 false),w 11 (.ln l0),x 12 (.i 0)] [] (.blk 0 K.sx))),res:=[]}
def dj:Fn:= { av:=7,vars:=[1,2,3,4,5,6],body:=(q [m v1,g v2,u (.mx [.l 1,.l 0]),x 1 l0] [] (.ite [m v1,u (.bin .leq l0 (.i 2147483648)),m l0,e 0 true v1,i 1 true v3,e 2 true v0,y 3 true (.ia l1 l0 1),i 4 true l0,y 5 true (.bin .lss l4 l0),u (.pk l6 l0 (.b false)),m l0,i 0 true v4,e 1 true v0,y 2 true (.cw l1 0 [] [.l 0]),u (.pk l3 l0 (.b false))] [] 0 (.reg [g v3,m v0,m v1,a 1 l2 l1,u (.st l0 l1 1 []),u (.st v5 (.b true) 1 [])] []) .skip)),res:=[]}
def dH:Fn:= { av:=1,vars:=[0,2],body:=(q [x 1 (.b false)] [] (q [m v0,u (.bin .neq l0 (.i 1099511627776)),m l0,e 0 true v0,y 1 true (.ca N.aS 0 [] [.l 0,.i 0,.i 2147483648]),y 2 true (.un .not l0),u (.pk l3 l0 (.b false)),x 1 l0] [] .ret)),res:=[(1,none)]}
def kM:Fn:= { av:=3,vars:=[0,1,2,3,6],body:=(q [w 3 (.bx v0 2),x 4 (.i 0)] [] (.seq (.ite [h 2 v3,u (.ca N.bL 0 [] [.l 0]),u (.un .not l0),m l0,e 0 false v1,y 1 false (.bin .lss l0 (.i 0)),u (.pk l2 (.b true) l0),m l0,e 0 false v1,y 1 false (.fa v3 1),i 2 false l0,y 3 false (.ln l0),y 4 false (.bin .geq l3 l0),u (.pk l5 (.b true) l0)] [] 0 (q [w 4 (.mv (.i (-1)))] [] .ret) .skip) (q [h 2 v3,m v1,m v2,u (.ca N.kN 0 [] [.l 2,.l 1,.l 0]),x 4 l0] [] .ret))),res:=[(4,none)]}
def kN:Fn:= { av:=3,vars:=[0,1,2,3,6],body:=(q [w 3 (.bx v0 2),x 4 (.i 0)] [] (q [h 2 v3,m v1,m v2,u (.ca N.jF 0 [] []),u (.ca N.kO 0 [] [.l 3,.l 2,.l 1,.l 0]),x 4 l0] [(0,4)] .ret)),res:=[(4,none)]}
def kO:Fn:= { av:=4,vars:=[0,1,2,3,4,7,8,9,10,11],body:=(q [w 4 (.bx v0 2),w 5 (.bx v3 3),x 6 (.i 0)] [] (q [f 1 v4,g l0,m v1,a 10 l1 l0,h 10 l0,w 7 (.al [z0,z0,z0,z0,z1,z1,z0,z0,z0,z0] []),u (.st l0 l1 10 [])] [] (.seq (.ite [f 5 v7,g l0,m l0,y 0 false (.fa v7 4),i 1 false l0,y 2 false (.un .not l0),u (.pk l3 (.b true) l0)] [] 0 (q [w 6 (.mv (.i (-1)))] [] .ret) .skip) (q [f 0 v4,g l0,f 1 v7,g l0,a 2 l2 l0,f 0 l0,g l0,f 0 v4,g l0,f 0 v7,g l0,a 2 l2 l0,f 0 l0,g l0,u (.bin .sub l7 l0),x 8 l0] [] (.seq (.ite [m v2] [] 0 (.reg [m v8,u (.un .neg l0),x 8 l0] []) .skip) (q [f 2 v5,g l0,x 9 l0] [] (.seq (.blk 0 (.ite [m v8,u (.bin .mul (.i 10) l0),f 2 v7,g l0,u (.bin .gtr l2 l0),m l0] [] 0 (.reg [f 0 v5,g l0,x 9 l0] []) (.ite [m v8,u (.bin .mul (.i (-10)) l0),f 2 v7,g l0,u (.bin .gtr l2 l0),m l0] [] 0 (.reg [f 1 v5,g l0,x 9 l0] []) .skip))) (q [f 2 v7,g l0,u (.bin .mul (.i 10) l0),m v9,u (.bin .add l1 l0),u (.bin .sub l0 (.i 1)),m v9,u (.bin .quo l1 l0),x 6 l0] [] .ret)))))))),res:=[(6,none)]}
def jF:Fn:= { av:=0,vars:=[0],body:=(q [w 0 (.al [z0,z0,z0] [])] [] (q [u (.bd [z0,z0,z0] [(0,1,.i 6),(1,1,.i 9),(2,1,.i 12)]),u (.st v0 l0 3 [])] [] .ret)),res:=[(0,some (3,true))]}
end Go.Ev.K
namespace Go.Ev
class jV [Lib]:Prop where
 qv:Lib.fs N.gw=some K.gw
 oh:Lib.fs N.ef=some K.ef
 om:Lib.fs N.cM=some K.cM
 uV:Lib.fs N.gP=some K.gP
 pn:Lib.fs N.dX=some K.dX
 ko:Lib.fs N.bw=some K.bw
 kp:Lib.fs N.ae=some K.ae
 m8:Lib.fs N.dG=some K.dG
 mA:Lib.fs N.dj=some K.dj
 m9:Lib.fs N.dH=some K.dH
 xo:Lib.fs N.kM=some K.kM
 xp:Lib.fs N.kN=some K.kN
 xq:Lib.fs N.kO=some K.kO
 uW:Lib.fs N.jF=some K.jF
namespace K
variable [Lib] [jV]
theorem qv:Lib.fs N.gw=some K.gw:=jV.qv
theorem oh:Lib.fs N.ef=some K.ef:=jV.oh
theorem om:Lib.fs N.cM=some K.cM:=jV.om
theorem uV:Lib.fs N.gP=some K.gP:=jV.uV
theorem pn:Lib.fs N.dX=some K.dX:=jV.pn
theorem ko:Lib.fs N.bw=some K.bw:=jV.ko
theorem kp:Lib.fs N.ae=some K.ae:=jV.kp
theorem m8:Lib.fs N.dG=some K.dG:=jV.m8
theorem mA:Lib.fs N.dj=some K.dj:=jV.mA
theorem m9:Lib.fs N.dH=some K.dH:=jV.m9
theorem xo:Lib.fs N.kM=some K.kM:=jV.xo
theorem xp:Lib.fs N.kN=some K.kN:=jV.xp
theorem xq:Lib.fs N.kO=some K.kO:=jV.xq
theorem uW:Lib.fs N.jF=some K.jF:=jV.uW
end K
end Go.Ev
namespace Go.Ev
open Go
variable [Lib] [dt] [dm] [gY] [i5] [lJ] [jV]
abbrev xr(l:List Int):Obj:= .arr 1 false 0 ((l.map (T.int .i64)).map .t)
end Go.Ev
namespace Go.Ev.K
open Go.Ev
def xt:C:= (.its [u (.bin .lss v17 v16)] [] 0 .skip (.exit 2) (.seq (.blk 3 (q [m v17,x 10 l0] [] (q [h 2 v7,m v10,m v1,m v2,u (.ca N.jE 0 [] [.l 3,.l 2,.l 1,.l 0]),m l0,u (.ex l0 0),u (.ex l1 1),x 11 l1,x 12 l1] [] (.seq (.ite [m v11] [] 0 (.reg [m v8,u (.bin .add l0 (.i 1)),x 8 l0] []) .skip) (.ite [m v12] [] 0 (.reg [m v9,u (.bin .add l0 (.i 1)),x 9 l0] []) .skip))))) (.reg [u (.bin .add v17 (.i 1)),x 17 l0] [])))
def yE:C:= .loop true [0,3,10,11,12] K.xt
def xu:C:= (.its [u (.bin .lss v15 v14)] [] 0 .skip (.exit 0) (.seq (.blk 1 (q [m v15,a 2 v13 v15,h 2 l0,w 7 (.al [.nil,.nil] []),x 6 l3,u (.st l1 l2 2 [])] [] (q [x 8 (.i 0),x 9 (.i 0)] [] (.seq (q [f 1 v7,g l0,w 16 (.ln l0),x 17 (.i 0)] [] (.blk 2 K.yE)) (.seq (.ite [m v6,u (.bin .eql l0 (.i 0))] [] 0 (.reg [m v8,m v9,u (.bd [z0,z0] [(0,1,.l 1),(1,1,.l 0)]),u (.st v5 l0 2 [])] []) .skip) (.reg [f 0 v5,g l0,m v8,u (.mn [.l 1,.l 0]),f 1 v5,g l0,m v9,u (.mx [.l 1,.l 0]),u (.bd [z0,z0] [(0,1,.l 4),(1,1,.l 0)]),u (.st v5 l0 2 [])] [])))))) (.reg [u (.bin .add v15 (.i 1)),x 15 l0] [])))
def yF:C:= .loop true [0,3,6,7,8,9,10,11,12,16,17] K.xu
def ik:Fn:= { av:=3,vars:=[0,1,2,3,6,7,8,9,10,11,12,13,14,16,17,18,25,26],body:=(q [w 3 (.bx v0 1),w 4 (.al [z0,z0] [])] [] (q [w 5 (.al [z0,z0] [])] [] (.seq (q [f 0 v3,w 13 (.ld l0 1 false),w 14 (.ln l0),x 15 (.i 0)] [] (.blk 0 K.yF)) (q [h 2 v5,u (.st v4 l0 2 [])] [] .ret)))),res:=[(4,some (2,true))]}
def jE:Fn:= { av:=4,vars:=[0,1,2,3,4,6,8,9,10,11],body:=(q [w 4 (.bx v0 2),w 5 (.bx v2 1),x 6 (.b false),x 7 (.b false)] [] (.seq (.ite [m v1,f 1 v4,g l0,u (.ln l0),u (.bin .geq l3 l0)] [] 0 (q [x 6 (.b false),x 7 (.b false)] [] .ret) .skip) (q [f 1 v4,g l0,m v1,a 2 l1 l0,h 2 l0,m v3,u (.ca N.cZ 0 [] [.l 1,.l 0]),x 8 l0] [] (q [u (.mf N.gn [.v 5]),w 9 (.al [.und] []),u (.st l0 l1 1 [])] [] (q [m v8,g v9,u (.ca N.ai 0 [] [.l 1,.l 0]),x 7 l0] [] (q [m v7,m l0,e 0 true v8,y 1 true (.mf N.gp [.v 9]),y 2 true (.ca N.ai 0 [] [.l 1,.l 0]),y 3 true (.un .not l0),u (.pk l4 l0 (.b false)),m v7,x 6 l1,x 7 l1] [] .ret)))))),res:=[(6,none),(7,none)]}
def cZ:Fn:= { av:=2,vars:=[0,1,2,3,4],body:=(q [w 2 (.bx v0 2),w 3 (.bx v1 1),w 4 (.mv (.c (.nil)))] [] (q [f 1 v2,g l0,u (.ln l0),u (.mf N.cH [.v 2,.v 3]),u (.ca N.dr 0 [] [.l 1,.l 0]),x 4 l0] [] .ret)),res:=[(4,none)]}
def gn:Fn:= { av:=2,vars:=[0,1,3],body:=(q [x 2 (.b false)] [] (q [g v1,m v0,u (.ca N.aK 0 [] [.l 1,.l 0]),x 2 l0] [] .ret)),res:=[(2,none)]}
def gp:Fn:= { av:=2,vars:=[0,1,3],body:= .fail,res:=[(2,none)]}
def cH:Fn:= { av:=3,vars:=[0,1,2,4],body:=(q [x 3 (.b false)] [] (q [f 1 v1,g l0,m v0,a 1 l1 l0,g l0,g v2,u (.bin .leq l1 l0),x 3 l0] [] .ret)),res:=[(3,none)]}
end Go.Ev.K
namespace Go.Ev
class mh [Lib]:Prop where
 sy:Lib.fs N.ik=some K.ik
 uX:Lib.fs N.jE=some K.jE
 nd:Lib.fs N.cZ=some K.cZ
 qw:Lib.fs N.gn=some K.gn
 qx:Lib.fs N.gp=some K.gp
 lU:Lib.fs N.cH=some K.cH
namespace K
variable [Lib] [mh]
theorem sy:Lib.fs N.ik=some K.ik:=mh.sy
theorem uX:Lib.fs N.jE=some K.jE:=mh.uX
theorem nd:Lib.fs N.cZ=some K.cZ:=mh.nd
theorem qw:Lib.fs N.gn=some K.gn:=mh.qw
theorem qx:Lib.fs N.gp=some K.gp:=mh.qx
theorem lU:Lib.fs N.cH=some K.cH:=mh.lU
end K
end Go.Ev
namespace Go.Ev.N
def Kc:Nat:=215
def Kd:Nat:=216
def Ke:Nat:=217
def QW:Nat:=218
def QX:Nat:=219
def QY:Nat:=220
def Uc:Nat:=221
def Ud:Nat:=222
def jG:Nat:=223
def kP:Nat:=224
def ir:Nat:=225
def QZ:Nat:=226
def Q0:Nat:=227
def kQ:Nat:=228
def Q1:Nat:=229
def iu:Nat:=230
def Ue:Nat:=231
def Np:Nat:=232
def Uf:Nat:=233
def Nq:Nat:=234
def Nr:Nat:=235
def Ns:Nat:=236
def Ug:Nat:=237
def Nt:Nat:=238
def j8:Nat:=239
def kR:Nat:=240
def bX:Nat:=241
def Uh:Nat:=242
def iv:Nat:=243
def eh:Nat:=244
end Go.Ev.N
namespace Go.Ev.K
open Go.Ev
def jG:Fn:= { av:=1,vars:=[0,2,3],body:=(q [w 1 (.al [.nil,.nil,z1] []),x 2 (.i 0)] [] (.seq (.ite [m v0,u (.ca N.iT 0 [] [.l 0]),u (.un .not l0)] [] 0 (q [u (.bd [.nil,.nil,z1] []),u (.st v1 l0 3 []),x 2 (.i 6)] [] .ret) .skip) (q [m v0,u (.ca N.ae 0 [] [.l 0]),m v0,u (.ln l0),u (.mkt l0 (.int .i64 (0)) 1),u (.bd [.nil,.nil,z1] [(0,1,.l 3),(1,1,.l 0)]),u (.st v1 l0 3 []),x 2 (.i 0)] [(4,0)] .ret))),res:=[(1,some (3,true)),(2,none)]}
def kP:Fn:= { av:=2,vars:=[0,1,2,4,5],body:=(q [w 2 (.bx v0 3),w 3 (.al [.nil,.nil,z1] []),x 4 (.i 0)] [] (q [h 3 v2,m v1,u (.ca N.j8 0 [] [.l 1,.l 0,.i 0,.i 1]),u (.ex l0 0),u (.ex l1 1),u (.st v3 l1 3 []),x 4 l1] [] .ret)),res:=[(3,some (3,true)),(4,none)]}
def ir:Fn:= { av:=2,vars:=[0,1,2,4,5],body:=(q [w 2 (.bx v0 3),w 3 (.al [.nil,.nil,z1] []),x 4 (.i 0)] [] (q [h 3 v2,m v1,u (.ca N.j8 0 [] [.l 1,.l 0,.i 1,.i 2]),u (.ex l0 0),u (.ex l1 1),u (.st v3 l1 3 []),x 4 l1] [] .ret)),res:=[(3,some (3,true)),(4,none)]}
def kQ:Fn:= { av:=1,vars:=[0,1,2,3],body:=(q [w 1 (.bx v0 3),w 2 (.al [.nil,.nil,z1] []),x 3 (.i 0)] [] (q [h 3 v1,u (.ca N.kR 0 [] [.l 0,.b true]),u (.ex l0 0),u (.ex l1 1),u (.st v2 l1 3 []),x 3 l1] [] .ret)),res:=[(2,some (3,true)),(3,none)]}
def xv:C:= (.its [u (.bin .lss v8 v7)] [] 0 .skip (.exit 0) (.seq (.blk 1 (q [m v8,a 1 v6 v8,g l0,x 4 l2,x 5 l1] [] (.ite [m v4,f 1 v1,g l0,u (.ln l0),u (.bin .lss l3 l0),m l0,y 0 true (.fa v1 1),i 1 true l0,e 2 true v4,y 3 true (.ia l1 l0 1),i 4 true l0,y 5 true (.bin .neq l0 (.i 0)),u (.pk l6 l0 (.b false))] [] 0 (.reg [m v3,m v5,u (.bs [.l 0] 1),u (.app l2 l0 true 1),x 3 l0] []) .skip))) (.reg [u (.bin .add v8 (.i 1)),x 8 l0] [])))
def yG:C:= .loop true [0,2,4,5] K.xv
def iu:Fn:= { av:=1,vars:=[0,1,2,3,4,5,7,8,9],body:=(q [w 1 (.bx v0 3),w 2 (.mv (.c (.nil)))] [] (q [w 3 (.nw 1)] [] (.seq (q [f 0 v1,w 6 (.ld l0 1 false),w 7 (.ln l0),x 8 (.i 0)] [] (.blk 0 K.yG)) (q [m v3,u (.ca N.bX 0 [0] [.l 0])] [] (q [m v3,x 2 l0] [] .ret))))),res:=[(2,none)]}
def j8:Fn:= { av:=4,vars:=[0,1,2,3,4,8,9,10],body:=(q [w 4 (.bx v0 3),w 5 (.al [.nil,.nil,z1] []),x 6 (.i 0)] [] (.seq (.blk 0 (.ite [h 3 v4,u (.ca N.ew 0 [] [.l 0]),u (.un .not l0),m l0] [] 0 (q [h 3 v4,u (.st v5 l0 3 []),x 6 (.i 6)] [] .ret) (.ite [m v1,f 1 v4,g l0,u (.ln l0),u (.bin .sub l0 (.i 1)),u (.ca N.aS 0 [] [.l 4,.i 0,.l 0]),u (.un .not l0),m l0] [] 0 (q [h 3 v4,u (.st v5 l0 3 []),x 6 (.i 47)] [] .ret) (.ite [f 1 v4,g l0,m v1,a 1 l1 l0,g l0,m v2,u (.bin .neq l1 l0),m l0,y 0 false (.fa v4 2),i 1 false l0,u (.pk l2 (.b true) l0),m l0] [] 0 (q [h 3 v4,u (.st v5 l0 3 []),x 6 (.i 48)] [] .ret) .skip)))) (q [h 3 v4,u (.ca N.eh 1 [] [.l 0]),w 7 (.al [.nil,.nil,z1] []),u (.st l0 l1 3 [])] [] (q [f 1 v7,g l0,m v1,m v3,a 1 l2 l1,u (.st l0 l1 1 [])] [] (q [h 3 v7,u (.st v5 l0 3 []),x 6 (.i 0)] [] .ret))))),res:=[(5,some (3,true)),(6,none)]}
def kR:Fn:= { av:=2,vars:=[0,1,2,4,5,6],body:=(q [w 2 (.bx v0 3),w 3 (.al [.nil,.nil,z1] []),x 4 (.i 0)] [] (.seq (.blk 0 (.ite [h 3 v2,u (.ca N.ew 0 [] [.l 0]),u (.un .not l0),m l0] [] 0 (q [h 3 v2,u (.st v3 l0 3 []),x 4 (.i 6)] [] .ret) (.ite [f 2 v2,g l0,m v1,u (.eqk (.bool) false l1 l0),m l0,e 0 false v1,e 1 false l0,y 0 true (.ld v2 3 true),y 1 true (.ca N.iU 0 [] [.l 0]),y 2 true (.un .not l0),y 5 false (.pk l3 l0 (.b false)),u (.pk l6 (.b true) l0),m l0] [] 0 (q [h 3 v2,u (.st v3 l0 3 []),x 4 (.i 48)] [] .ret) .skip))) (q [h 3 v2,u (.ca N.iv 0 [] [.l 0]),w 5 (.al [.nil,.nil,z1] []),u (.st l0 l1 3 [])] [] (q [m v1,f 2 v5,u (.st l0 l1 1 [])] [] (q [h 3 v5,u (.st v3 l0 3 []),x 4 (.i 0)] [] .ret))))),res:=[(3,some (3,true)),(4,none)]}
def bX:Fn:= { av:=1,vars:=[],body:= .fail,res:=[],prim:=[1]}
def iv:Fn:= { av:=1,vars:=[0,1,2],body:=(q [w 1 (.bx v0 3),w 2 (.al [.nil,.nil,z1] [])] [] (q [f 0 v1,g l0,u (.ca N.ae 0 [] [.l 0]),f 1 v1,g l0,u (.ca N.ae 0 [] [.l 0]),f 2 v1,g l0,u (.bd [.nil,.nil,z1] [(0,1,.l 5),(1,1,.l 2),(2,1,.l 0)]),u (.st v2 l0 3 [])] [(4,0),(7,0),(7,3)] .ret)),res:=[(2,some (3,true))]}
def eh:Fn:= { av:=1,vars:=[0,1,2],body:=(q [w 1 (.bx v0 3),w 2 (.al [.nil,.nil,z1] [])] [] (q [f 0 v1,g l0,u (.ca N.ae 1 [] [.l 0]),f 1 v1,g l0,u (.ca N.ae 1 [] [.l 0]),f 2 v1,g l0,u (.bd [.nil,.nil,z1] [(0,1,.l 5),(1,1,.l 2),(2,1,.l 0)]),u (.st v2 l0 3 [])] [(4,0),(7,0),(7,3)] .ret)),res:=[(2,some (3,true))]}
end Go.Ev.K
namespace Go.Ev
class gJ [Lib]:Prop where
 uY:Lib.fs N.jG=some K.jG
 xw:Lib.fs N.kP=some K.kP
 sB:Lib.fs N.ir=some K.ir
 xx:Lib.fs N.kQ=some K.kQ
 sC:Lib.fs N.iu=some K.iu
 xy:Lib.fs N.j8=some K.j8
 xz:Lib.fs N.kR=some K.kR
 kS:Lib.fs N.bX=some K.bX
 sD:Lib.fs N.iv=some K.iv
 oo:Lib.fs N.eh=some K.eh
namespace K
variable [Lib] [gJ]
theorem uY:Lib.fs N.jG=some K.jG:=gJ.uY
theorem xw:Lib.fs N.kP=some K.kP:=gJ.xw
theorem sB:Lib.fs N.ir=some K.ir:=gJ.sB
theorem xx:Lib.fs N.kQ=some K.kQ:=gJ.xx
theorem sC:Lib.fs N.iu=some K.iu:=gJ.sC
theorem xy:Lib.fs N.j8=some K.j8:=gJ.xy
theorem xz:Lib.fs N.kR=some K.kR:=gJ.xz
theorem kS:Lib.fs N.bX=some K.bX:=gJ.kS
theorem sD:Lib.fs N.iv=some K.iv:=gJ.sD
theorem oo:Lib.fs N.eh=some K.eh:=gJ.oo
end K
end Go.Ev
namespace Go.Ev
open Go
variable [Lib] [dt] [dm] [kg] [jj] [mh] [gY] [i5] [lJ] [jV] [gJ]
end Go.Ev
namespace Go.Ev
open Go
theorem DU{d:D}{n:Int}(h:EB d=some n):d= .t (.int .i64 n):=by
 unfold EB at h
 split at h
 · cases h;rfl
 · cases h
theorem Jg:∀ {es:List D} {l:List Int},bQ EB es=some l→es=l.map fun x=> .t (.int .i64 x)
 | [],l,h=>by simp[bQ]at h;subst h;rfl
 | e::r,l,h=>by
   simp only[bQ,aLa,aLb]at h
   obtain⟨x,hx,y,hy,rfl⟩:=h
   rw[DU hx,Jg hy];rfl
theorem xA(x:Int):∀l,(N3 x l).Perm (x::l)
 | []=> .refl _
 | y::r=>by
   unfold N3
   split
   · exact .refl _
   · exact((xA x r).cons y).trans (.swap x y r)
theorem tP:∀l,(ku l).Perm l
 | []=> .refl _
 | x::r=>(xA x _).trans ((tP r).cons x)
theorem Jh{x:Int}:∀ {l:List Int},l.Pairwise (· ≤ ·)→(N3 x l).Pairwise (· ≤ ·)
 | [],_=>by simp[N3]
 | y::r,h=>by
   unfold N3
   split
   · rename_i hx
     refine List.pairwise_cons.2 ⟨fun z hz=>?_,h⟩
     rcases List.mem_cons.1 hz with rfl | hz
     · exact hx
     · have:=(List.pairwise_cons.1 h).1 z hz;omega
   · rename_i hx
     have h':=List.pairwise_cons.1 h
     refine List.pairwise_cons.2 ⟨fun z hz=>?_,Jh h'.2⟩
     have hz:=(xA x r).mem_iff.1 hz
     rcases List.mem_cons.1 hz with rfl | hz
     · omega
     · exact h'.1 z hz
theorem Fj:∀l,(ku l).Pairwise (· ≤ ·)
 | []=> .nil
 | x::r=>Jh (Fj r)
theorem j9(l:List Int):(ku l).length=l.length:=(tP l).length_eq
theorem AJ(l:List Int):(l.mergeSort fun x y=>decide (x≤y))=ku l:=by
 refine List.Perm.eq_of_pairwise (le:=(· ≤ ·)) (fun a b _ _ h1 h2=>by omega) ?_ (Fj l) ((List.mergeSort_perm _ _).trans (tP l).symm)
 have:=List.pairwise_mergeSort (le:=fun x y:Int=>decide (x≤y)) (fun a b c=>by simp;omega) (fun a b=>by simp;omega) l
 exact this.imp (by simp)
end Go.Ev
namespace Go.Ev
open Go
variable [Lib] [dt] [dm] [kg] [jj] [mh] [gY] [i5] [lJ] [jV] [gJ]
section
variable (k : Keys) (hl : k.keys.length ≤ 1000000) (hr : k.roads.length ≤ 1000000)
include hl hr
end
end Go.Ev
namespace Go.Ev
open Go
variable [Lib] [dt] [dm] [kg] [jj] [mh] [gY] [i5] [lJ] [jV] [gJ]
section
variable (b u v y : Obj) (ds : aj)
end
end Go.Ev
namespace Go.Ev.N
def Fk:Nat:=245
def DV:Nat:=246
def DW:Nat:=247
def Q2:Nat:=248
def LM:Nat:=249
def Q3:Nat:=250
def Fl:Nat:=251
def Kf:Nat:=252
def Ji:Nat:=253
def Q4:Nat:=254
def Nu:Nat:=255
def Ui:Nat:=256
def iw:Nat:=257
def Gu:Nat:=258
def nV:Nat:=259
def bJ:Nat:=260
def bn:Nat:=261
def ff:Nat:=262
def bH:Nat:=263
def ak:Nat:=264
def fg:Nat:=265
def oS:Nat:=266
def bf:Nat:=267
def Jj:Nat:=268
def aA:Nat:=269
def cmp_isNaN_int:Nat:=270
end Go.Ev.N
namespace Go.Ev.K
open Go.Ev
def xB:C:= (.its [u (.bin .lss v10 v9)] [] 0 .skip (.exit 0) (.seq (.blk 1 (q [m v10,a 2 v8 v10,h 2 l0,w 7 (.al [.nil,.nil] []),x 6 l3,u (.st l1 l2 2 [])] [] (.blk 2 (.ite [f 0 v7,g l0,u (.ln l0),u (.ca N.aS 0 [] [.l 0,.i 1,.i 12]),u (.un .not l0),m l0,y 0 false (.fa v7 1),i 1 false l0,y 2 false (.ln l0),y 3 false (.fa v7 0),i 4 false l0,y 5 false (.ln l0),y 6 false (.bin .neq l3 l0),u (.pk l7 (.b true) l0),m l0,y 0 false (.fa v7 0),i 1 false l0,y 2 false (.ca N.ff 0 [] [.l 0]),y 3 false (.un .not l0),u (.pk l4 (.b true) l0),m l0] [] 0 (q [x 4 (.b false)] [] .ret) (.ite [f 0 v7,g l0,u (.ca N.bn 0 [] [.l 0]),u (.ca N.bJ 0 [] [.l 0]),m v5,u (.ca N.bw 0 [] [.l 1,.l 0]),u (.un .not l0),m l0] [] 0 (q [x 4 (.b false)] [] .ret) (.ite [m v6,u (.bin .gtr l0 (.i 0)),m l0,y 0 true (.fa v3 0),i 1 true l0,e 2 true v6,y 3 true (.bin .sub l0 (.i 1)),y 4 true (.ia l2 l0 2),y 5 true (.fa l0 0),i 6 true l0,y 7 true (.fa v7 0),i 8 true l0,y 9 true (.ca N.bH 0 [] [.l 2,.l 0]),y 10 true (.bin .geq l0 (.i 0)),u (.pk l11 l0 (.b false)),m l0] [] 0 (q [x 4 (.b false)] [] .ret) (.ite [f 1 v7,g l0,u (.mf N.fg [.v 2]),u (.ca N.ak 0 [] [.l 1,.l 0]),m l0] [] 0 (q [x 4 (.b false)] [] .ret) .skip))))))) (.reg [u (.bin .add v10 (.i 1)),x 10 l0] [])))
def yH:C:= .loop true [0,1,4,6,7] K.xB
def iw:Fn:= { av:=2,vars:=[0,1,2,3,4,5,6,7,26,27,28],body:=(q [w 2 (.bx v0 2),w 3 (.bx v1 1),x 4 (.b false)] [] (.seq (.ite [h 2 v2,u (.ca N.bL 0 [] [.l 0]),u (.un .not l0),m l0,y 0 false (.fa v3 0),i 1 false l0,y 2 false (.ln l0),y 3 false (.ca N.aS 0 [] [.l 0,.i 1,.i 24]),y 4 false (.un .not l0),u (.pk l5 (.b true) l0)] [] 0 (q [x 4 (.b false)] [] .ret) .skip) (q [f 0 v3,g l0,a 2 l0 (.i 0),f 0 l0,g l0,u (.ca N.bn 0 [] [.l 0]),u (.ca N.bJ 0 [] [.l 0]),x 5 l0] [] (.seq (q [f 0 v3,w 8 (.ld l0 1 false),w 9 (.ln l0),x 10 (.i 0)] [] (.blk 0 K.yH)) (q [x 4 (.b true)] [] .ret))))),res:=[(4,none)]}
def bJ:Fn:= { av:=1,vars:=[2],body:= .fail,res:=[(0,none)],prim:=[2,N.bf]}
def bn:Fn:= { av:=1,vars:=[0,1,2],body:=(q [w 1 (.bx v0 1),w 2 (.mv (.c (.und)))] [] (q [u (.mf N.bf [.v 1]),x 2 l0] [] .ret)),res:=[(2,none)]}
def ff:Fn:= { av:=1,vars:=[0,2,3],body:=(q [x 1 (.b false)] [] (q [m v0,u (.ca N.bn 0 [] [.l 0]),u (.ca N.bJ 0 [] [.l 0]),x 2 l0] [] (q [m v2,u (.ca N.bl 0 [] [.l 0,.i 1,.i 65535]),x 1 l0] [] .ret))),res:=[(1,none)]}
def bH:Fn:= { av:=2,vars:=[0,1,4,5,6,7,8,9,10,11],body:= .fail,res:=[(2,none)]}
def ak:Fn:= { av:=2,vars:=[0,1,4],body:=(q [x 2 (.b false)] [] (q [m v0,m v1,u (.ca N.aA 0 [] [.l 1,.l 0]),u (.bin .geq l0 (.i 0)),x 2 l0] [] .ret)),res:=[(2,none)]}
def fg:Fn:= { av:=2,vars:=[0,1,2,3],body:=(q [w 2 (.bx v0 2),x 3 (.b false)] [] (q [h 2 v1,h 2 v2,u (.ca N.gu 0 [] [.l 1,.l 0]),u (.un .not l0),x 3 l0] [] .ret)),res:=[(3,none)]}
def bf:Fn:= { av:=2,vars:=[0,1,4,5,6,7],body:= .fail,res:=[]}
def ez:C:= (.its [u (.bin .lss v5 v4)] [] 0 .skip (.exit 0) (.seq (.blk 1 (q [m v5,x 3 l0] [] (.ite [m v1,m v0,m v3,a 2 l1 l0,h 2 l0,u (.cw l4 0 [] [.l 0])] [] 0 (q [m v3,x 2 l0] [] .ret) .skip))) (.reg [u (.bin .add v5 (.i 1)),x 5 l0] [])))
def eG:C:= .loop true [2,3] K.ez
def aA:Fn:= { av:=2,vars:=[0,1,4,5,7,8],body:=(q [x 2 (.i 0)] [] (.seq (q [m v0,w 4 (.ln l0),x 5 (.i 0)] [] (.blk 0 K.eG)) (q [w 2 (.mv (.i (-1)))] [] .ret))),res:=[(2,none)]}
end Go.Ev.K
namespace Go.Ev
class jd [Lib]:Prop where
 sE:Lib.fs N.iw=some K.iw
 lV:Lib.fs N.bJ=some K.bJ
 ka:Lib.fs N.bn=some K.bn
 qy:Lib.fs N.ff=some K.ff
 jH:Lib.fs N.bH=some K.bH
 bU:Lib.fs N.ak=some K.ak
 po:Lib.fs N.fg=some K.fg
 je:Lib.fs N.bf=some K.bf
 b7:Lib.fs N.aA=some K.aA
namespace K
variable [Lib] [jd]
theorem sE:Lib.fs N.iw=some K.iw:=jd.sE
theorem lV:Lib.fs N.bJ=some K.bJ:=jd.lV
theorem ka:Lib.fs N.bn=some K.bn:=jd.ka
theorem qy:Lib.fs N.ff=some K.ff:=jd.qy
theorem jH:Lib.fs N.bH=some K.bH:=jd.jH
theorem bU:Lib.fs N.ak=some K.ak:=jd.bU
theorem po:Lib.fs N.fg=some K.fg:=jd.po
theorem je:Lib.fs N.bf=some K.bf:=jd.je
theorem b7:Lib.fs N.aA=some K.aA:=jd.b7
end K
end Go.Ev
namespace Go.Ev
open Go
variable [Lib] [dt] [dm] [kg] [jj] [mh] [gY] [i5] [lJ] [jV] [gJ] [jd]
end Go.Ev
namespace Go.Ev
open Go
variable [Lib] [dt] [dm]
def Jk(m:fJ)(HF:List Int)(t:Int)(j:Nat):List Wh:=(List.range j).map fun i=>(XE m (nth HF i) t).1
@[simp] theorem Q5 (m : fJ) (HF : List Int) (t : Int) (j : Nat) : (Jk m HF t j).length = j := by simp [Jk]
@[go_sem] theorem aaE : ([] : List D).all kt = true := (rfl)
@[go_sem] theorem X2 (d : D) (r : List D) : (d :: r).all kt = (kt d && r.all kt) := (rfl)
@[go_sem] theorem Q6 (cs : List T) : kt (.t (.agg cs)) = false := (rfl)
@[go_sem] theorem Uj (cs : List T) : kt (.t (.sl cs)) = false := (rfl)
@[go_sem] theorem Q7 (k : IntKind) (n : Int) : kt (.t (.int k n)) = true := (rfl)
@[go_sem] theorem Nv (b : Bool) : kt (.t (.bool b)) = true := (rfl)
@[go_sem] theorem aeG (l : List Wh) (k : Nat) (a : Int) (b : List Int) : (List.map D.t (List.map Wh.e l)).set k (D.t (T.agg [tI a, tL b])) = List.map D.t (List.map Wh.e (l.set k ⟨a, b⟩)) := by
 rw[List.map_set,List.map_set]
theorem LN{gc:Bool}{dead:List Nat}{c:C}{vs:List D}{H:aj}(P:Nat→St→Prop)(n:Nat)(Q:Ex×St→Prop)(h0:P 0 ⟨jO dead vs,H⟩)
 (hs:∀j st,j<n→P j st→∃st',lN gc dead st.H.length (exS dn c st)=some st'∧P (j+1) st')
 (he:∀st,P n st→∃q,exS dn c st=some q∧q.1≠ .normal∧Q q):∃q,exS dn (.loop gc dead c) ⟨vs,H⟩=some q∧Q q:=by
 have key:∀(k j:Nat) (st:St),j+k=n→P j st→∃q,oI gc dead (exS dn c) st=some q∧Q q:=by
  intro k
  induction k with
  | zero=>
    intro j st hj hp
    obtain⟨q,h1,h2,h3⟩:=he st (by rw[← hj];exact hp)
    exact⟨q,jA h1 h2,h3⟩
  | succ k ih=>
    intro j st hj hp
    obtain⟨st',h1,h2⟩:=hs j st (by omega) hp
    obtain⟨q,h3,h4⟩:=ih (j+1) st' (by omega) h2
    exact⟨q,tE h1 h3,h4⟩
 exact key n 0 _ (by omega) h0
abbrev ints(l:List Int):List D:=(l.map (T.int .i64)).map .t
abbrev whs(l:List Wh):List D:=(l.map Wh.e).map .t
structure Rp(H:aj)(id:Nat)(es:List D)(fa fb:Nat→Nat)(out:List World):Prop where
 arr:H[id]?=some (.arr 2 false 0 es)
 len:es.length=out.length
 el:∀j,j<out.length→es[j]?=some (.agg [.ref (fa j) 0 (nth out j).tags.length,.ref (fb j) 0 (nth out j).whr.length])
 ha:∀j,j<out.length→H[fa j]?=some (.arr 1 false 0 (ints (nth out j).tags))
 hb:∀j,j<out.length→H[fb j]?=some (.arr 2 false 0 (whs (nth out j).whr))
 na:∀j,j<out.length→fa j≠id
 nb:∀j,j<out.length→fb j≠id
 nab:∀i j,i<out.length→j<out.length→fa i≠fb j
 nbb:∀i j,i<out.length→j<out.length→i≠j→fb i≠fb j
@[go_sem] theorem aaF (a b : Wh) : (Qg a b).1.e = .agg [tI (Qg a b).1.time, tL (Qg a b).1.frm] := rfl
theorem Rp.size{H:aj}{id:Nat}{es:List D}{fa fb:Nat→Nat}{out:List World}(hr:Rp H id es fa fb out):∀e∈es,e.cells.length=2:=by
 intro e he
 obtain⟨j,hj⟩:=aLf.1 he
 have hl:=(aLe.1 hj).1
 rw[hr.el j (by rw[← hr.len];exact hl)]at hj
 cases hj;rfl
theorem Jl{α:Type}(l:List α)(k:Nat)(hk:k≤l.length)(x:α)(j:Nat):(l.take k++[x]++l.drop k)[j]?=if j<k then l[j]? else if j=k then some x else l[j-1]?:=by
 have hl:(l.take k).length=k:=by rw[List.length_take];omega
 rw[List.append_assoc]
 by_cases h1:j<k
 · rw[if_pos h1,aLg (by omega),List.getElem?_take_of_lt h1]
 · rw[if_neg h1,aLh (by omega),hl]
   by_cases h2:j=k
   · rw[if_pos h2,h2,Nat.sub_self];rfl
   · rw[if_neg h2,aLh (by simp;omega)]
     simp only[List.length_singleton,List.getElem?_drop]
     congr 1;omega
theorem DX{α:Type} [Dat α](l:List α)(k:Nat)(hk:k≤l.length)(x:α)(j:Nat):nth (l.take k++[x]++l.drop k) j=if j<k then nth l j else if j=k then x else nth l (j-1):=by
 unfold nth
 rw[aLl,Jl l k hk]
 split
 · rw[aLl]
 · split
   · rfl
   · rw[aLl]
theorem DY{α:Type} [Dat α](l:List α)(k:Nat)(hk:k<l.length)(x:α)(j:Nat):nth (l.set k x) j=if j=k then x else nth l j:=by
 unfold nth
 rw[aLl]
 by_cases h:j=k
 · rw[if_pos h,h,aLj hk];rfl
 · rw[if_neg h,aLi (fun e=>h e.symm),aLl]
theorem Rp.ins{H:aj}{id:Nat}{es:List D}{fa fb:Nat→Nat}{out:List World}(hr:Rp H id es fa fb out){k:Nat}(hk:k≤out.length)(x:World)(o:Obj):
 Rp (H++[.arr 2 false 0 (es.take k++[.agg [.ref (H.length+1) 0 x.tags.length,.ref (H.length+2) 0 x.whr.length]]++es.drop k),.arr 1 false 0 (ints x.tags),.arr 2 false 0 (whs x.whr),o]) H.length
  (es.take k++[.agg [.ref (H.length+1) 0 x.tags.length,.ref (H.length+2) 0 x.whr.length]]++es.drop k)
  (fun j=>if j<k then fa j else if j=k then H.length+1 else fa (j-1)) (fun j=>if j<k then fb j else if j=k then H.length+2 else fb (j-1)) (out.take k++[x]++out.drop k):=by
 have ol:(out.take k++[x]++out.drop k).length=out.length+1:=by
  rw[aLv,aLv,List.length_take,List.length_drop,List.length_singleton];omega
 have e2:=hr.len
 have ba:∀j,j<out.length→fa j<H.length:=fun j hj=>QJ (hr.ha j hj)
 have bb:∀j,j<out.length→fb j<H.length:=fun j hj=>QJ (hr.hb j hj)
 refine⟨Gp,?_,?_,?_,?_,?_,?_,?_,?_⟩
 · rw[ol,aLv,aLv,List.length_take,List.length_drop,List.length_singleton];omega
 · intro j hj
   rw[ol]at hj
   simp only[Jl es k (by omega),DX out k hk]
   by_cases h1:j<k
   · simp only[if_pos h1];exact hr.el j (by omega)
   · by_cases h2:j=k
     · simp only[if_neg h1,if_pos h2]
     · simp only[if_neg h1,if_neg h2];exact hr.el (j-1) (by omega)
 · intro j hj
   rw[ol]at hj
   simp only[DX out k hk]
   by_cases h1:j<k
   · simp only[if_pos h1];rw[Fg (ba j (by omega))];exact hr.ha j (by omega)
   · by_cases h2:j=k
     · simp only[if_neg h1,if_pos h2];rw[zP];rfl
     · simp only[if_neg h1,if_neg h2];rw[Fg (ba (j-1) (by omega))];exact hr.ha (j-1) (by omega)
 · intro j hj
   rw[ol]at hj
   simp only[DX out k hk]
   by_cases h1:j<k
   · simp only[if_pos h1];rw[Fg (bb j (by omega))];exact hr.hb j (by omega)
   · by_cases h2:j=k
     · simp only[if_neg h1,if_pos h2];rw[zP];rfl
     · simp only[if_neg h1,if_neg h2];rw[Fg (bb (j-1) (by omega))];exact hr.hb (j-1) (by omega)
 · intro j hj
   rw[ol]at hj
   have b1:=ba j
   have b2:=ba (j-1)
   split
   · have:=b1 (by omega);omega
   · split
     · omega
     · have:=b2 (by omega);omega
 · intro j hj
   rw[ol]at hj
   have b1:=bb j
   have b2:=bb (j-1)
   split
   · have:=b1 (by omega);omega
   · split
     · omega
     · have:=b2 (by omega);omega
 · intro i j hi hj
   rw[ol]at hi hj
   have a1:=ba i
   have a2:=ba (i-1)
   have b1:=bb j
   have b2:=bb (j-1)
   by_cases h1:i<k
   · rw[if_pos h1]
     have:=a1 (by omega)
     by_cases h2:j<k
     · rw[if_pos h2];exact hr.nab i j (by omega) (by omega)
     · rw[if_neg h2]
       by_cases h3:j=k
       · rw[if_pos h3];omega
       · rw[if_neg h3];exact hr.nab i (j-1) (by omega) (by omega)
   · rw[if_neg h1]
     by_cases h4:i=k
     · rw[if_pos h4]
       split
       · have:=b1 (by omega);omega
       · split
         · omega
         · have:=b2 (by omega);omega
     · rw[if_neg h4]
       have:=a2 (by omega)
       by_cases h2:j<k
       · rw[if_pos h2];exact hr.nab (i-1) j (by omega) (by omega)
       · rw[if_neg h2]
         by_cases h3:j=k
         · rw[if_pos h3];omega
         · rw[if_neg h3];exact hr.nab (i-1) (j-1) (by omega) (by omega)
 · intro i j hi hj hne
   rw[ol]at hi hj
   have a1:=bb i
   have a2:=bb (i-1)
   have b1:=bb j
   have b2:=bb (j-1)
   by_cases h1:i<k
   · rw[if_pos h1]
     have:=a1 (by omega)
     by_cases h2:j<k
     · rw[if_pos h2];exact hr.nbb i j (by omega) (by omega) hne
     · rw[if_neg h2]
       by_cases h3:j=k
       · rw[if_pos h3];omega
       · rw[if_neg h3];exact hr.nbb i (j-1) (by omega) (by omega) (by omega)
   · rw[if_neg h1]
     by_cases h4:i=k
     · rw[if_pos h4]
       split
       · have:=b1 (by omega);omega
       · split
         · omega
         · have:=b2 (by omega);omega
     · rw[if_neg h4]
       have:=a2 (by omega)
       by_cases h2:j<k
       · rw[if_pos h2];exact hr.nbb (i-1) j (by omega) (by omega) (by omega)
       · rw[if_neg h2]
         by_cases h3:j=k
         · rw[if_pos h3];omega
         · rw[if_neg h3];exact hr.nbb (i-1) (j-1) (by omega) (by omega) (by omega)
theorem Rp.merge{H:aj}{id:Nat}{es:List D}{fa fb:Nat→Nat}{out:List World}(hr:Rp H id es fa fb out){k:Nat}(hk:k<out.length)(x:World)(ht:(nth out k).tags=x.tags)(hw:x.whr.length=(nth out k).whr.length):
 Rp (H.set (fb k) (.arr 2 false 0 (whs x.whr))) id es fa fb (out.set k x):=by
 have ol:(out.set k x).length=out.length:=List.length_set
 have nk:=hr.nb k hk
 have kl:=QJ (hr.hb k hk)
 refine⟨by rw[xm nk];exact hr.arr,by rw[ol];exact hr.len,?_,?_,?_,by rw[ol];exact hr.na,by rw[ol];exact hr.nb,by rw[ol];exact hr.nab,by rw[ol];exact hr.nbb⟩
 · intro j hj
   rw[ol]at hj
   rw[hr.el j hj,DY out k hk]
   by_cases h:j=k
   · rw[if_pos h,h,ht,hw]
   · rw[if_neg h]
 · intro j hj
   rw[ol]at hj
   rw[xm (fun e=>hr.nab j k hj hk e.symm),hr.ha j hj,DY out k hk]
   by_cases h:j=k
   · rw[if_pos h,h,ht]
   · rw[if_neg h]
 · intro j hj
   rw[ol]at hj
   rw[DY out k hk]
   by_cases h:j=k
   · rw[if_pos h,h,Gq kl]
   · rw[if_neg h,xm (fun e=>hr.nbb j k hj hk h e.symm)];exact hr.hb j hj
theorem Rp.frz{H:aj}{id:Nat}{es:List D}{fa fb:Nat→Nat}{out:List World}(hr:Rp H id es fa fb out):
 bQ (frz H 8) es=some (out.map World.e)∧∀i∈es.flatMap (fU H 8),i≠id:=by
 have hl:=hr.len
 have key:∀(j:Nat) (hj:j<out.length),Go.Ev.frz H 8 (.agg [.ref (fa j) 0 (nth out j).tags.length,.ref (fb j) 0 (nth out j).whr.length])=some (nth out j).e∧
  fU H 8 (.agg [.ref (fa j) 0 (nth out j).tags.length,.ref (fb j) 0 (nth out j).whr.length])=[fa j,fb j]:=by
  intro j hj
  have h1:=hr.ha j hj
  have h2:=hr.hb j hj
  simp(disch:=omega)only[go_sem,h1,h2,ints,whs,↓reduceIte]
 constructor
 · have:∀(es:List D) (ts:List T),es.length=ts.length→(∀(j:Nat) e t,es[j]?=some e→ts[j]?=some t→Go.Ev.frz H 8 e=some t)→bQ (Go.Ev.frz H 8) es=some ts:=by
    intro es
    induction es with
    | nil=>intro ts h _;cases ts with
      | nil=>rfl
      | cons=>simp at h
    | cons e es ih=>
      intro ts h hh
      cases ts with
      | nil=>simp at h
      | cons t ts=>
        have h1:=hh 0 e t rfl rfl
        have h2:=ih ts (by simpa using h) fun j e t he ht=>hh (j+1) e t (by simpa using he) (by simpa using ht)
        simp only[bQ,h1,aLq,h2,aLw]
   refine this es _ (by rw[List.length_map,hl]) fun j e t he ht=>?_
   have hj:j<out.length:=by rw[← hl];exact(aLe.1 he).1
   rw[hr.el j hj]at he
   rw[i4 _ hj]at ht
   cases he;cases ht
   exact(key j hj).1
 · intro i hi
   obtain⟨e,he,hi⟩:=List.mem_flatMap.1 hi
   obtain⟨j,hj⟩:=aLf.1 he
   have hjl:j<out.length:=by rw[← hl];exact(aLe.1 hj).1
   rw[hr.el j hjl]at hj
   cases hj
   rw[(key j hjl).2]at hi
   simp only[List.mem_cons,List.not_mem_nil,or_false]at hi
   rcases hi with rfl | rfl
   · exact hr.na j hjl
   · exact hr.nb j hjl
@[go_sem] theorem Nw {α β γ : Type} [Dat α] (f : β → γ) (g : α → β) {l : List α} {i j : Nat} {x : α} (h : j < l.length) : (((l.set i x).map g).map f)[j]? = some (f (g (nth (l.set i x) j))) := Fb f g (by rw [List.length_set]; exact h)
structure BSt where
 b:Bel
 t:Int
 d:aX
structure WOk(m:fJ)(N:Nat)(x:World):Prop where
 tg:x.tags.length=N
 wh:x.whr.length=N
 fr:∀w∈x.whr,w.frm.length=m.aP.length
 ti:∀w∈x.whr,inT w.time
structure BOk(m:fJ)(N:Nat)(b:Bel):Prop where
 w1:1≤b.wB.length
 w2:b.wB.length≤24
 n1:1≤N
 n2:N≤12
 ws:∀x∈b.wB,WOk m N x
theorem WOk.sz{m:fJ}{N:Nat}{x:World}(h:WOk m N x)(hm:m.ok)(hn:N≤12):x.sz:=by
 have np:=hm.np
 obtain⟨t1,t2,t3, -⟩:=h
 exact⟨by omega,by omega,fun w hw=>by rw[t3 w hw];omega⟩
theorem BOk.sz{m:fJ}{N:Nat}{b:Bel}(h:BOk m N b)(hm:m.ok):b.sz:=
 ⟨by have:=h.w2;omega,fun x hx=>(h.ws x hx).sz hm h.n2⟩
def aX.spread(d:aX)(m:fJ)(fl:List Spn):Wh×aX:=
 let p:=d.next m.aP.length
 let t:=p.2.next 200
 let s:=XI m fl [p.1] t.1
 let o:=t.2.one 2
 if o.1=true then
  let f:=o.2.LA m
  let a:=f.2.next 100
  let r:=Qj m fl m f.1 s.1 (s.1.time+a.1)
  if r.2=0 then(r.1,a.2)else(s.1,a.2)
 else(s.1,o.2)
theorem AK{p:Int}{n:Nat}(h0:0≤p)(h1:p<n):Xw [p] n=true:=by
 simp only[Xw,aLx,aLu,decide_eq_true_eq]
 intro j hj
 obtain rfl:j=0:=by simpa using hj
 exact⟨h0,h1,fun h=>absurd h (by omega)⟩
structure Mch where
 kind:Int
 num:Int
 pl:List Int
instance : Dat Mch := ⟨⟨0, 0, []⟩⟩
abbrev Mch.e(x:Mch):T:= .agg [tI x.kind,tI x.num,tL x.pl]
@[go_sem] theorem X3 (l : List Mch) : mg 3 (l.map Mch.e) = true := by cases l <;> rfl
end Go.Ev
namespace Go.Ev
open Go
variable [Lib] [dt] [dm] [kg] [jj] [mh] [gY] [i5] [lJ] [jV] [gJ] [jd]
end Go.Ev
namespace Go.Ev
open Go
variable [Lib] [dt] [dm] [gY] [i5] [lJ] [jV]
@[go_sem] theorem aeH (H : aj) (len j : Nat) (ts : List T) (h : j < len) : Wd H len 1 false (.t (.agg ts)) j = (ts[j]?).map fun t => (.t t, H) := by
 have h0:len≠0:=by omega
 unfold Wd zp
 rw[if_neg h0,if_pos h]
 unfold rE cut
 simp only[D.isAgg,D.cells,T.cells,if_true,Nat.mul_one,List.length_map]
 by_cases hj:j<ts.length
 · rw[if_pos (by omega),aLc hj]
   have e:((ts.map D.t).drop j).take 1=[D.t ts[j]]:=by
    rw[List.drop_eq_getElem_cons (by simpa using hj)];simp
   rw[e];rfl
 · rw[if_neg (by omega),aLm (by omega)];rfl
section
variable (a0 a1 a2 a3 a4 a5 x y : Obj) (ds : aj)
end
@[go_sem] theorem aaG (n : Nat) : eqB n n = true := by
 induction n with
 | zero=>rfl
 | succ n ih=>exact ih
end Go.Ev
namespace Go.Ev
open Go
variable [Lib] [dt] [dm] [kg] [jj] [gY] [i5] [lJ] [jV]
end Go.Ev
namespace Go.Ev
open Go
variable [Lib] [dt] [dm] [kg] [jj] [mh] [gY] [i5] [lJ] [jV] [gJ] [jd]
end Go.Ev
namespace Go.Ev
open Go
variable [Lib] [dt] [dm] [gY] [i5]
theorem AL(l:List Spn)(hl:l.length≤4294967296)(f:Nat)(bs:List (List T))(p:Spn→Bool)(h:∀x,x∈l→dn 0 f (.t x.e::ie bs.length) (bj bs)=some (B (p x),bj bs)):
 dn 0 N.aJ [.t (.sl (l.map Spn.e)),.fn f (ie bs.length)] (bj bs)=
 some (I (match (List.range l.length).find? (fun j=>p (nth l j))with | some j=>(j:Int) | none=> -1),bj bs):=by
 refine bG K.cq rfl ?_
 have loop:∀a b:D,exS dn K.dV ⟨[.t (.sl (l.map Spn.e)),.fn f (ie bs.length),a,b,I l.length,I 0],bj bs⟩=
  some (match (List.range l.length).find? (fun j=>p (nth l j))with
   | some j=>(.ret,⟨[.t (.sl (l.map Spn.e)),.fn f (ie bs.length),I j,I j,I l.length,I j],bj bs⟩)
   | none=>(.exit 0,⟨[.t (.sl (l.map Spn.e)),.fn f (ie bs.length),.und,.und,I l.length,I l.length],bj bs⟩)):=by
  intro a b
  refine pY (fun j=>⟨[.t (.sl (l.map Spn.e)),.fn f (ie bs.length),.und,.und,I l.length,I j],bj bs⟩) l.length (fun j=>p (nth l j)) _ _ rfl ?_ ?_ ?_ (by simp)
  · intro j hj hp
    have hc:=pZ (h _ (jo hj)) rfl
    simp(disch:=omega)only[go_sem,K.bF,↓reduceIte,hc,hp]
  · intro j hj hp
    have hc:=pZ (h _ (jo hj)) rfl
    simp(disch:=omega)only[go_sem,K.bF,↓reduceIte,hp,hc]
    simp
  · simp(disch:=omega)only[go_sem,K.bF,↓reduceIte]
 simp(disch:=omega)only[go_sem,K.aJ,↓reduceIte,loop]
 cases hf:(List.range l.length).find? (fun j=>p (nth l j))with
 | some j=>simp(disch:=omega)only[go_sem,↓reduceIte]
 | none=>simp(disch:=omega)only[go_sem,↓reduceIte]
theorem LO{α:Type} [Dat α]{l:List α}{p:α→Bool}:((List.range l.length).find? fun j=>p (nth l j)).isSome=l.any p:=by
 rw[List.isSome_find?,Bool.eq_iff_iff,List.any_eq_true,List.any_eq_true]
 constructor
 · rintro ⟨j,hj,h⟩
   exact⟨_,jo (aLu.1 hj),h⟩
 · rintro ⟨x,hx,h⟩
   obtain⟨j,hj⟩:=aLf.1 hx
   exact⟨j,aLu.2 (aLe.1 hj).1,by rw[oe hj];exact h⟩
theorem vD(l:List Spn)(hl:l.length≤4294967296)(f:Nat)(bs:List (List T))(p:Spn→Bool)(h:∀x,x∈l→dn 0 f (.t x.e::ie bs.length) (bj bs)=some (B (p x),bj bs)):
 dn 0 N.aq [.t (.sl (l.map Spn.e)),.fn f (ie bs.length)] (bj bs)=some (B (l.any p),bj bs):=by
 refine bG K.bW rfl ?_
 have h:=AL l hl f bs p h
 have hc:=zK dn bs f _ 0 (.sl (l.map Spn.e)) h rfl
 have e:=LO (l:=l) (p:=p)
 cases hf:(List.range l.length).find? (fun j=>p (nth l j))with
 | some j=>rw[hf]at e hc;simp(disch:=omega)only[go_sem,K.aq,↓reduceIte,←e,hc]
 | none=>rw[hf]at e hc;simp(disch:=omega)only[go_sem,K.aq,↓reduceIte,←e,hc,Option.isSome_none]
abbrev Q8:Int:=2147483648
section
variable {m : fJ} (h : m.ok) {fl : List Spn}
include h
end
end Go.Ev
namespace Go.Ev
open Go
def clP(m:fJ)(fl:List Spn)(y:List Int):Prop:=∀k,k<m.roads.length→∀back,0≤tK (nth m.roads k) (nth fl k) back→
 nth y ((nth m.roads k).src back).toNat+tK (nth m.roads k) (nth fl k) back≤Q8→
 nth y ((nth m.roads k).dst back).toNat≤nth y ((nth m.roads k).src back).toNat+tK (nth m.roads k) (nth fl k) back
variable [Lib] [dt] [dm] [gY] [i5]
end Go.Ev
namespace Go.Ev
open Go
variable [Lib] [dt] [dm] [gY] [i5]
def afx(l:List Int):Prop:=∀x∈l,0≤x∧(x≤Q8∨x=1099511627776)
end Go.Ev
namespace Go.Ev
open Go
variable [Lib] [dt] [dm] [kg] [jj] [gY] [i5]
structure X4(m:fJ)(fl:List Spn)(s:Wh):Prop where
 ln:s.frm.length=m.aP.length
 ti:inT s.time
 tm:afx s.frm
 lo:∀x∈s.frm,s.time≤x
 cl:clP m fl s.frm
theorem X4.valid{m:fJ}{fl:List Spn}{s:Wh}(h:X4 m fl s):IW m s=true:=by
 simp only[IW,aLr,decide_eq_true_eq,aLx,aLu]
 refine⟨fun j hj=>?_,h.ln,h.ti⟩
 have a:=h.tm _ (jo hj)
 have b:=h.lo _ (jo hj)
 unfold plS
 simp only[Q8]at a
 omega
end Go.Ev
namespace Go.Ev
open Go
variable [Lib] [dt] [dm]
section
variable {m : fJ} (hm : m.ok) {N : Nat} {b : Bel} (hb : BOk m N b) {s : Wh} (hs : s.frm.length = m.aP.length) {l : List Mch}
variable (hl : ∀ y ∈ l, y.pl.length ≤ m.aP.length ∧ 1 ≤ y.pl.length ∧ ∀ x ∈ y.pl, 0 ≤ x ∧ x < m.aP.length) {t a : Int} (t0 : 0 ≤ t) (t1 : t ≤ 10000) (a0 : 0 ≤ a) (a1 : a ≤ 10000) (d : aX)
include hm hb hs hl t0 t1 a0 a1
omit hm hb t0 t1 a1 in
end
def aX.skip(d:aX)(n:Int):Nat→aX
 | 0=>d
 | k+1=>((d.skip n k).next n).2
end Go.Ev
namespace Go.Ev
open Go
variable [Lib] [dt] [dm] [kg] [jj] [mh] [gY] [i5] [lJ] [jV] [gJ] [jd]
section
variable {m : fJ} (hm : m.ok) (l : List Mch) (hl : l.length ≤ 1000) (hp : ∀ x ∈ l, x.pl.length ≤ 1000000) (s : Wh) (hs : s.frm.length ≤ 1000000) (b : Bel) (hb : b.sz) (t a : Int)
include hm hl hp hs hb
end
end Go.Ev
namespace Go.Ev
open Go
variable [Lib] [dt] [dm] [kg] [jj] [gY] [i5]
end Go.Ev
namespace Go.Ev
open Go
variable [Lib] [dt] [dm]
section
variable {m : fJ} (h : m.ok) {t : Int} {into : Option (List Int)}
include h
end
end Go.Ev
namespace Go.Ev
open Go
variable [Lib] [dt] [dm] [lJ] [jV]
end Go.Ev
namespace Go.Ev
open Go
variable [Lib] [dt] [dm] [kg] [jj] [gY] [i5] [lJ] [jV]
end Go.Ev
namespace Go.Ev
open Go
variable [Lib] [dt] [dm] [mh]
end Go.Ev
namespace Go.Ev
open Go
variable [Lib] [dt] [dm] [kg] [jj] [mh] [gY] [i5] [lJ] [jV]
end Go.Ev
namespace Go.Ev
open Go
variable [Lib] [dt] [dm]
def sh(s x:Int):Int:=if x<1099511627776 then x+s else x
def shL(s:Int)(l:List Int):List Int:=l.map (sh s)
@[simp] theorem adv (s : Int) (l : List Int) : (shL s l).length = l.length := List.length_map ..
end Go.Ev
namespace Go.Ev
open Go
variable [Lib] [dt] [dm] [kg] [jj] [mh] [gY] [i5] [lJ] [jV]
end Go.Ev
namespace Go.Ev
open Go
variable [Lib] [dt] [dm] [kg] [jj] [mh] [gY] [i5] [lJ] [jV] [gJ] [jd]
end Go.Ev
namespace Go.Ev.N
def Gv:Nat:=271
def Jm:Nat:=272
def DZ:Nat:=273
def Hj:Nat:=274
def Kg:Nat:=275
def Jn:Nat:=276
def Q9:Nat:=277
def iy:Nat:=278
def Uk:Nat:=279
def Ul:Nat:=280
def Kh:Nat:=281
def X5:Nat:=282
def Nx:Nat:=283
def Ra:Nat:=284
def Rb:Nat:=285
def Um:Nat:=286
def td:Nat:=287
def Un:Nat:=288
def iz:Nat:=289
def iA:Nat:=290
def Rc:Nat:=291
def Re:Nat:=292
def Ki:Nat:=293
def Rf:Nat:=294
def Rg:Nat:=295
def Ny:Nat:=296
def aV:Nat:=297
def aW:Nat:=298
def fh:Nat:=299
def bA:Nat:=300
def aI:Nat:=301
def aE:Nat:=302
def a7:Nat:=303
def aL:Nat:=304
def aT:Nat:=305
def uZ:Nat:=306
def sF:Nat:=307
def dw:Nat:=308
end Go.Ev.N
namespace Go.Ev.N
def Nz:Nat:=309
def Jo:Nat:=310
def Kj:Nat:=311
def Kk:Nat:=312
def Jp:Nat:=313
def Rh:Nat:=314
def adw:Nat:=315
def kT:Nat:=316
def Ri:Nat:=317
def Rj:Nat:=318
def iB:Nat:=319
def Rk:Nat:=320
def X6:Nat:=321
def X7:Nat:=322
def iC:Nat:=323
def fk:Nat:=324
def kU:Nat:=325
def aaH:Nat:=326
def Kl:Nat:=327
def NA:Nat:=328
def LP:Nat:=329
def aH:Nat:=330
def aM:Nat:=331
def LQ:Nat:=332
def Jq:Nat:=333
end Go.Ev.N
namespace Go.Ev.N
def Gw:Nat:=334
def Hk:Nat:=335
def Hl:Nat:=336
def Rl:Nat:=337
def Gx:Nat:=338
def iD:Nat:=339
def Rm:Nat:=340
def Uo:Nat:=341
def iE:Nat:=342
def jI:Nat:=343
def Up:Nat:=344
def aaI:Nat:=345
def Km:Nat:=346
def Rn:Nat:=347
def Uq:Nat:=348
def Ur:Nat:=349
def c7:Nat:=350
def fm:Nat:=351
def fp:Nat:=352
def gx:Nat:=353
def Ro:Nat:=354
def Kn:Nat:=355
def Us:Nat:=356
def Ut:Nat:=357
def LR:Nat:=358
def gy:Nat:=359
def gD:Nat:=360
def jJ:Nat:=361
def Rq:Nat:=362
def LS:Nat:=363
def Rr:Nat:=364
def Uu:Nat:=365
def Uv:Nat:=366
def Uw:Nat:=367
def Ux:Nat:=368
def cI:Nat:=369
def aC:Nat:=370
def aO:Nat:=371
def fq:Nat:=372
def ay:Nat:=373
def ft:Nat:=374
def fv:Nat:=375
def Rs:Nat:=376
def Rt:Nat:=377
def Ko:Nat:=378
def aF:Nat:=379
def aN:Nat:=380
def dI:Nat:=381
def LU:Nat:=382
def Jr:Nat:=383
end Go.Ev.N
namespace Go.Ev.N
def LV:Nat:=384
def Kp:Nat:=385
def Js:Nat:=386
def Kq:Nat:=387
def Jt:Nat:=388
def Ru:Nat:=389
def Rv:Nat:=390
def Uy:Nat:=391
def Hm:Nat:=392
def Rw:Nat:=393
def Rx:Nat:=394
def Hn:Nat:=395
def jK:Nat:=396
def Ho:Nat:=397
def Gy:Nat:=398
def X8:Nat:=399
def Uz:Nat:=400
def UA:Nat:=401
def Ju:Nat:=402
def UB:Nat:=403
def X9:Nat:=404
def UC:Nat:=405
def UD:Nat:=406
def Ya:Nat:=407
def Fm:Nat:=408
def Fo:Nat:=409
def UE:Nat:=410
def Yb:Nat:=411
def NB:Nat:=412
def Br:Nat:=413
def Yc:Nat:=414
def zQ:Nat:=415
end Go.Ev.N
namespace Go.Ev.N
def Cm:Nat:=416
def C0:Nat:=417
def C1:Nat:=418
def Cn:Nat:=419
def Ry:Nat:=420
def Hp:Nat:=421
def Gz:Nat:=422
def NC:Nat:=423
def Hq:Nat:=424
def Hr:Nat:=425
def Rz:Nat:=426
def Ht:Nat:=427
def Fp:Nat:=428
def Hu:Nat:=429
def yI:Nat:=430
def D0:Nat:=431
def Yd:Nat:=432
def Ye:Nat:=433
def UF:Nat:=434
def Fq:Nat:=435
def jL:Nat:=436
def Fs:Nat:=437
def iF:Nat:=438
def RA:Nat:=439
def RB:Nat:=440
def ND:Nat:=441
def RC:Nat:=442
def RD:Nat:=443
def Ft:Nat:=444
def UG:Nat:=445
def LW:Nat:=446
def UH:Nat:=447
def RE:Nat:=448
def UI:Nat:=449
def RF:Nat:=450
def aaJ:Nat:=451
def aaK:Nat:=452
def Yf:Nat:=453
def Co:Nat:=454
def Bt:Nat:=455
def NF:Nat:=456
def Yg:Nat:=457
def UJ:Nat:=458
def Yh:Nat:=459
def Hv:Nat:=460
def qb:Nat:=461
def UK:Nat:=462
def Yi:Nat:=463
def D1:Nat:=464
def NG:Nat:=465
def GA:Nat:=466
def qz:Nat:=467
def Fu:Nat:=468
def Fv:Nat:=469
def Yj:Nat:=470
def Kr:Nat:=471
end Go.Ev.N
namespace Go.Ev.N
def Jv:Nat:=472
def Ks:Nat:=473
def Jw:Nat:=474
end Go.Ev.N
namespace Go.Ev.N
def Jx:Nat:=475
def GC:Nat:=476
def GD:Nat:=477
def D2:Nat:=478
def RG:Nat:=479
def RH:Nat:=480
def NH:Nat:=481
def LX:Nat:=482
def RI:Nat:=483
def NI:Nat:=484
def NJ:Nat:=485
def NK:Nat:=486
def UL:Nat:=487
def RJ:Nat:=488
def Fw:Nat:=489
def RK:Nat:=490
def NL:Nat:=491
def Kt:Nat:=492
def NM:Nat:=493
def Hw:Nat:=494
def RL:Nat:=495
def UM:Nat:=496
def UN:Nat:=497
def D3:Nat:=498
def oL:Nat:=499
def Ku:Nat:=500
def Kv:Nat:=501
def p5:Nat:=502
def C2:Nat:=503
end Go.Ev.N
namespace Go.Ev.N
def Hx:Nat:=504
def RM:Nat:=505
def RN:Nat:=506
def UO:Nat:=507
end Go.Ev.N
namespace Go.Ev.N
def Hy:Nat:=508
def RO:Nat:=509
def Jy:Nat:=510
def RP:Nat:=511
def UP:Nat:=512
def jM:Nat:=513
def NN:Nat:=514
def RQ:Nat:=515
def Jz:Nat:=516
def Hz:Nat:=517
def GF:Nat:=518
def UQ:Nat:=519
def LY:Nat:=520
def gz:Nat:=521
def eH:Nat:=522
def LZ:Nat:=523
def UR:Nat:=524
def a8:Nat:=525
def fw:Nat:=526
def dY:Nat:=527
def aY:Nat:=528
def jN:Nat:=529
def L0:Nat:=530
def NQ:Nat:=531
def L3:Nat:=532
def US:Nat:=533
def cN:Nat:=534
def cO:Nat:=535
def cP:Nat:=536
def cQ:Nat:=537
def cR:Nat:=538
def cT:Nat:=539
def D4:Nat:=540
def GG:Nat:=541
def D5:Nat:=542
def D6:Nat:=543
def cU:Nat:=544
def cV:Nat:=545
def cW:Nat:=546
def NR:Nat:=547
def Kw:Nat:=548
def HA:Nat:=549
def bY:Nat:=550
def Kx:Nat:=551
def HB:Nat:=552
def HC:Nat:=553
def Fx:Nat:=554
def HD:Nat:=555
def JA:Nat:=556
def oM:Nat:=557
def C3:Nat:=558
def C4:Nat:=559
def GH:Nat:=560
def p6:Nat:=561
end Go.Ev.N
namespace Go.Ev.N
def JB:Nat:=562
def fY:Nat:=563
def UT:Nat:=564
def UU:Nat:=565
def RR:Nat:=566
def UW:Nat:=567
def mB:Nat:=568
def iG:Nat:=569
def RS:Nat:=570
def L4:Nat:=571
def UX:Nat:=572
def NS:Nat:=573
def UY:Nat:=574
def L5:Nat:=575
def RT:Nat:=576
def NT:Nat:=577
def kV:Nat:=578
def iH:Nat:=579
def Bu:Nat:=580
def NU:Nat:=581
def kW:Nat:=582
def fx:Nat:=583
def dy:Nat:=584
def fy:Nat:=585
def iI:Nat:=586
def fA:Nat:=587
def gA:Nat:=588
def fB:Nat:=589
def fC:Nat:=590
def fD:Nat:=591
def fE:Nat:=592
def gB:Nat:=593
def cr:Nat:=594
def dz:Nat:=595
def ct:Nat:=596
def cu:Nat:=597
def dk:Nat:=598
def fF:Nat:=599
def ei:Nat:=600
def aD:Nat:=601
def dJ:Nat:=602
def gE:Nat:=603
def gC:Nat:=604
def ek:Nat:=605
def cJ:Nat:=606
def cK:Nat:=607
def en:Nat:=608
def aG:Nat:=609
def pq:Nat:=610
def L6:Nat:=611
def UZ:Nat:=612
def qA:Nat:=613
end Go.Ev.N
namespace Go.Ev.N
def cy:Nat:=614
def bZ:Nat:=615
def b5:Nat:=616
def bN:Nat:=617
def cz:Nat:=618
def bO:Nat:=619
def dK:Nat:=620
def bz:Nat:=621
def br:Nat:=622
def c8:Nat:=623
def dL:Nat:=624
def c9:Nat:=625
def cA:Nat:=626
def bk:Nat:=627
def bP:Nat:=628
def bD:Nat:=629
def cB:Nat:=630
def bg:Nat:=631
def bE:Nat:=632
def bq:Nat:=633
end Go.Ev.N
namespace Go.Ev.K
open Go.Ev
def fG:C:= (.seq (.ite [m v12,m v9,u (.bin .add l0 (.i 60)),u (.bin .leq l2 l0),m l0,e 0 true v8,y 1 true (.bin .eql l0 (.i 0)),u (.pk l2 l0 (.b false))] [] 0 .skip (.exit 0)) (.seq (.blk 1 (q [h 3 v10,u (.bd [z0,z0,z0,z0] []),h 2 v7,m v11,m v12,u (.bin .add (.i 100) l0),u (.ca N.bN 0 [] [.l 5,.l 4,.l 3,.l 2,.i 1,.i 2,.i 100,.l 0]),m l0,u (.ex l0 0),u (.ex l1 1),u (.al [z0,z0,z0,z0] []),u (.st l0 l2 4 []),x 13 l2] [] (.seq (.ite [m v13,u (.bin .eql l0 (.i 0)),m v12,m v9,u (.bin .geq l1 l0),m l0,e 0 true v12,y 1 true (.fa v10 0),i 2 true l0,y 3 true (.bin .geq l2 l0),u (.pk l4 l0 (.b false)),u (.eqk (.bool) true l9 l0)] [] 0 (q [x 2 (.b false)] [] .ret) .skip) (q [h 2 v4,m v5,h 2 v7,m v12,u (.bin .add (.i 100) l0),u (.bin .add l0 (.i 60)),u (.ca N.cz 0 [] [.l 5,.l 4,.l 3,.l 0]),m l0,u (.ex l0 0),u (.ex l1 1),u (.st v7 l1 2 []),x 8 l1] [] (.ite [f 1 v7,g l0,u (.ln l0),f 1 v4,g l0,u (.ln l0),u (.bin .neq l3 l0)] [] 0 (q [x 2 (.b false)] [] .ret) .skip))))) (.reg [m v12,u (.bin .add l0 (.i 60)),x 12 l0] [])))
def nf:C:= .loop true [0,1,2,3,6,13] K.fG
def cy:Fn:= { av:=2,vars:=[0,1,4,5,6,7,8,9,10,11,12,13,14,16],body:=(q [x 2 (.b false)] [] (.seq (.ite [m v0,u (.ca N.gN 0 [] [.l 0]),u (.un .not l0)] [] 0 (q [u (.ca N.fY 0 [] []),x 2 l0] [] .ret) .skip) (q [m v0,u (.ca N.jc 0 [] [.l 0]),x 3 l0] [] (q [m v3,u (.ca N.b6 0 [] [.l 0]),w 4 (.al [.nil,.nil] []),u (.st l0 l1 2 [])] [] (q [m v3,h 2 v4,u (.ca N.bV 0 [] [.l 1,.l 0]),x 5 l0] [] (q [m v3,f 1 v4,g l0,u (.ln l0),u (.ca N.bc 0 [] [.l 3,.l 0]),u (.bs [.l 0] 1),x 6 l0] [] (q [h 2 v4,m v6,u (.ca N.bZ 0 [] [.l 1,.l 0,.i 2000,.i 100]),m l0,u (.ex l0 0),u (.ex l1 1),w 7 (.al [z0,.nil] []),u (.st l0 l2 2 []),x 8 l2] [] (.seq (.ite [m v8,u (.bin .neq l0 (.i 0))] [] 0 (q [x 2 (.b false)] [] .ret) .skip) (q [h 2 v4,m v5,h 2 v7,m v6,u (.ca N.b5 0 [] [.l 3,.l 2,.l 1,.l 0,.i 50,.i 60,.i 40]),m l0,u (.ex l0 0),u (.ex l1 1),x 9 l1,x 8 l1] [] (.seq (.ite [m v8,u (.bin .eql l0 (.i 50))] [] 0 (q [u (.ca N.fY 0 [] []),x 2 l0] [] .ret) .skip) (q [m v1,u (.cv .i64 l0),u (.bin .mul l0 (.i 10)),m v6,u (.bd [z0,z0,.nil] [(0,1,.l 1),(1,1,.i 50),(2,1,.l 0)]),w 10 (.al [z0,z0,.nil] []),u (.st l0 l1 3 [])] [] (q [u (.bd [z0,z0] [(0,1,.i 0),(1,1,.i 50)]),u (.bs [.l 0] 2),x 11 l0] [] (.seq (q [x 12 (.i 0)] [] (.blk 0 K.nf)) (q [u (.ca N.fY 0 [] []),m l0,e 0 true v8,y 1 true (.bin .eql l0 (.i 0)),u (.pk l2 l0 (.b false)),x 2 l0] [] .ret)))))))))))))),res:=[(2,none)]}
def jq:C:= (.its [u (.bin .lss v11 v10)] [] 0 .skip (.exit 1) (.seq (.blk 2 (q [a 1 v9 v11,g l0,x 8 l0] [] (.reg [f 1 v7,g l0,m v8,m v2,a 1 l2 l1,u (.st l0 l1 1 [])] []))) (.reg [u (.bin .add v11 (.i 1)),x 11 l0] [])))
def mC:C:= .loop true [0,1,3,4,6,8] K.jq
def bZ:Fn:= { av:=4,vars:=[0,1,2,3,4,8,9,10,12,43,44,45],body:=(q [w 4 (.bx v0 2),w 5 (.al [z0,.nil] []),x 6 (.i 0)] [] (.seq (.blk 0 (.ite [h 2 v4,u (.ca N.bL 0 [] [.l 0]),u (.un .not l0),m l0] [] 0 (q [u (.bd [z0,.nil] []),u (.st v5 l0 2 []),x 6 (.i 6)] [] .ret) (.ite [m v1,f 1 v4,g l0,u (.ln l0),u (.bin .sub l0 (.i 1)),u (.ca N.bl 0 [] [.l 4,.i 0,.l 0]),u (.un .not l0),m l0] [] 0 (q [u (.bd [z0,.nil] []),u (.st v5 l0 2 []),x 6 (.i 4)] [] .ret) (.ite [m v2,u (.ca N.aS 0 [] [.l 0,.i 0,.i 1000000]),u (.un .not l0),m l0] [] 0 (q [u (.bd [z0,.nil] []),u (.st v5 l0 2 []),x 6 (.i 1)] [] .ret) (.ite [m v3,u (.ca N.aS 0 [] [.l 0,.i 0,.i 2147483648]),u (.un .not l0),m l0] [] 0 (q [u (.bd [z0,.nil] []),u (.st v5 l0 2 []),x 6 (.i 8)] [] .ret) .skip))))) (q [m v3,f 1 v4,g l0,u (.ln l0),u (.mk l0 (z0) 1),u (.bd [z0,.nil] [(0,1,.l 4),(1,1,.l 0)]),w 7 (.al [z0,.nil] []),u (.st l0 l1 2 [])] [] (.seq (q [x 9 v1,w 10 (.ln l0),x 11 (.i 0)] [] (.blk 1 K.mC)) (q [h 2 v7,u (.st v5 l0 2 []),x 6 (.i 0)] [] .ret))))),res:=[(5,some (2,true)),(6,none)]}
def gF:C:= (.seq (.ite [m v14,m v6,u (.bin .leq l1 l0),m l0,y 0 true (.fa v8 0),i 1 true l0,e 2 true v14,e 3 true v5,y 4 true (.bin .mul l1 l0),y 5 true (.bin .add l3 l0),y 6 true (.bin .leq l0 (.i 2147483648)),u (.pk l7 l0 (.b false))] [] 0 .skip (.exit 1)) (.seq (.blk 2 (.seq (.ite [m v3,u (.mf N.bz [.v 13,.v 9]),u (.ca N.ai 0 [] [.l 1,.l 0]),u (.un .not l0)] [] 0 (q [m v14,m v5,u (.bin .mul l1 l0),x 10 l0,x 11 (.i 0)] [] .ret) .skip) (.reg [h 4 v12,g v13,m v5,u (.ca N.br 0 [] [.l 2,.l 1,.l 0]),u (.st v13 l0 1 [])] []))) (.reg [m v14,u (.bin .add l0 (.i 1)),x 14 l0] [])))
def mD:C:= .loop true [0,1,2,4,7,10,11] K.gF
def b5:Fn:= { av:=7,vars:=[0,1,2,3,4,5,6,7,9,11,14,15,16,17,18],body:=(q [w 7 (.bx v0 2),w 8 (.bx v2 2),w 9 (.bx v4 1),x 10 (.i 0),x 11 (.i 0)] [] (.seq (.blk 0 (.ite [h 2 v7,m v1,h 2 v8,u (.ca N.bO 0 [] [.l 2,.l 1,.l 0]),u (.un .not l0),m l0] [] 0 (q [x 10 (.i 0),x 11 (.i 6)] [] .ret) (.ite [m v3,f 1 v7,g l0,u (.ln l0),u (.bin .sub l0 (.i 1)),u (.ca N.bl 0 [] [.l 4,.i 0,.l 0]),u (.un .not l0),m l0] [] 0 (q [x 10 (.i 0),x 11 (.i 4)] [] .ret) (.ite [g v9,u (.ca N.aS 0 [] [.l 0,.i 0,.i 1000000]),u (.un .not l0),m l0,e 0 false v5,y 1 false (.ca N.aS 0 [] [.l 0,.i 1,.i 3600]),y 2 false (.un .not l0),u (.pk l3 (.b true) l0),m l0,e 0 false v6,y 1 false (.ca N.aS 0 [] [.l 0,.i 0,.i 1000]),y 2 false (.un .not l0),u (.pk l3 (.b true) l0),m l0] [] 0 (q [x 10 (.i 0),x 11 (.i 1)] [] .ret) .skip)))) (q [w 12 (.al [.nil,.nil,.nil,.nil] []),w 13 (.al [.nil] []),h 2 v7,m v1,u (.ca N.dK 0 [] [.l 1,.l 0]),f 1 v8,g l0,u (.st l6 l2 4 []),u (.st l6 l1 1 [])] [(0,5),(1,5),(6,2),(6,8)] (.seq (q [x 14 (.i 0)] [] (.blk 1 K.mD)) (q [x 10 (.i 0),x 11 (.i 50)] [] .ret))))),res:=[(10,none),(11,none)]}
def bN:Fn:= { av:=8,vars:=[0,1,2,3,4,5,6,7,8,9,10,16,17],body:=(q [w 8 (.bx v0 3),w 9 (.bx v1 4),w 10 (.bx v2 2),w 11 (.al [z0,z0,z0,z0] []),x 12 (.i 0)] [] (.seq (.blk 0 (.ite [h 3 v8,h 4 v9,u (.ca N.c8 0 [] [.l 1,.l 0]),u (.un .not l0),m l0] [] 0 (q [h 4 v9,u (.st v11 l0 4 []),x 12 (.i 6)] [] .ret) (.ite [f 0 v9,g l0,u (.bin .neq l0 (.i 0)),m l0] [] 0 (q [h 4 v9,u (.st v11 l0 4 []),x 12 (.i 10)] [] .ret) (.ite [m v7,f 1 v9,g l0,m v6,u (.mx [.i 0,.l 1,.l 0]),u (.ca N.aS 0 [] [.l 4,.l 0,.i 2147483648]),u (.un .not l0),m l0] [] 0 (q [h 4 v9,u (.st v11 l0 4 []),x 12 (.i 8)] [] .ret) (.ite [m v4,m v5,u (.ca N.dL 0 [] [.l 1,.l 0]),u (.un .not l0),m l0] [] 0 (q [h 4 v9,u (.st v11 l0 4 []),x 12 (.i 19)] [] .ret) (.ite [m v6,u (.bin .lss l0 (.i 0)),m l0,e 0 false v6,e 1 false v7,y 2 false (.fa v8 0),i 3 false l0,y 4 false (.bin .sub l2 l0),y 5 false (.bin .gtr l4 l0),u (.pk l6 (.b true) l0),m l0] [] 0 (q [h 4 v9,u (.st v11 l0 4 []),x 12 (.i 8)] [] .ret) (.ite [h 3 v8,h 2 v10,m v3,m v7,u (.ca N.c9 0 [] [.l 3,.l 2,.l 1,.l 0]),u (.un .not l0),m l0] [] 0 (q [h 4 v9,u (.st v11 l0 4 []),x 12 (.i 50)] [] .ret) .skip))))))) (q [m v7,m v4,m v5,u (.bd [z0,z0,z0,z0] [(0,1,.i 1),(1,1,.l 2),(2,1,.l 1),(3,1,.l 0)]),u (.st v11 l0 4 []),x 12 (.i 0)] [] .ret))),res:=[(11,some (4,true)),(12,none)]}
def cz:Fn:= { av:=4,vars:=[0,1,2,3,4,6,8,9],body:=(q [w 4 (.bx v0 2),w 5 (.bx v2 2),w 6 (.al [z0,.nil] []),x 7 (.i 0)] [] (.seq (.blk 0 (.ite [h 2 v4,m v1,h 2 v5,u (.ca N.bO 0 [] [.l 2,.l 1,.l 0]),u (.un .not l0),m l0] [] 0 (q [h 2 v5,u (.st v6 l0 2 []),x 7 (.i 6)] [] .ret) (.ite [m v3,f 0 v5,g l0,u (.bin .lss l2 l0),m l0,e 0 false v3,y 1 false (.bin .gtr l0 (.i 2147483648)),u (.pk l2 (.b true) l0),m l0] [] 0 (q [h 2 v5,u (.st v6 l0 2 []),x 7 (.i 8)] [] .ret) .skip))) (q [m v3,h 2 v4,m v1,u (.ca N.dK 0 [] [.l 1,.l 0]),f 1 v5,g l0,m v3,f 0 v5,g l0,u (.bin .sub l2 l0),u (.ca N.br 0 [] [.l 6,.l 4,.l 0]),u (.bd [z0,.nil] [(0,1,.l 10),(1,1,.l 0)]),u (.st v6 l0 2 []),x 7 (.i 0)] [(5,0),(8,0)] .ret))),res:=[(6,some (2,true)),(7,none)]}
def bO:Fn:= { av:=3,vars:=[0,1,2,3,5,6],body:=(q [w 3 (.bx v0 2),w 4 (.bx v2 2),x 5 (.b false)] [] (q [h 2 v3,h 2 v4,u (.ca N.cA 0 [] [.l 1,.l 0]),m l0,e 0 true v1,y 1 true (.ln l0),y 2 true (.fa v3 1),i 3 true l0,y 4 true (.ln l0),y 5 true (.bin .eql l3 l0),u (.pk l6 l0 (.b false)),m l0,e 0 true v1,y 1 true (.ca N.aq 0 [] [.l 0,.c (.fn N.bk [])]),y 2 true (.un .not l0),u (.pk l3 l0 (.b false)),x 5 l0] [] .ret)),res:=[(5,none)]}
def jk:C:= (.its [u (.bin .lss v10 v9)] [] 0 .skip (.exit 0) (.seq (.blk 1 (q [m v10,a 10 v8 v10,h 10 l0,w 6 (.al [z0,z0,z0,z0,z1,z1,z0,z0,z0,z0] []),x 5 l3,u (.st l1 l2 10 [])] [] (q [m v1,m v5,a 2 l1 l0,f 0 l0,g l0,m v1,m v5,a 2 l1 l0,f 1 l0,g l0,u (.un .neg l0),u (.mx [.i 0,.l 6,.l 0]),u (.mn [.l 0,.i 1048576]),x 7 l0] [] (.seq (.ite [f 5 v6,g l0] [] 0 (.reg [x 7 (.i 0)] []) .skip) (.reg [f 2 v4,g l0,h 2 v2,m v1,m v5,u (.ca N.bP 0 [] [.l 2,.l 1,.l 0]),u (.bs [.l 0] 1),u (.app l5 l0 true 1),f 3 v4,g l0,m v7,u (.bs [.l 0] 1),u (.app l2 l0 true 1),f 2 v4,u (.st l0 l6 1 []),f 3 v4,u (.st l0 l3 1 [])] [(1,6),(6,6),(9,0),(9,6),(11,0),(11,6)]))))) (.reg [u (.bin .add v10 (.i 1)),x 10 l0] [])))
def pt:C:= .loop true [0,5,6,7] K.jk
def dK:Fn:= { av:=2,vars:=[0,1,2,4,5,6,7,8,12,13,14],body:=(q [w 2 (.bx v0 2),w 3 (.al [.nil,.nil,.nil,.nil] [])] [] (q [h 2 v2,u (.bd [.nil,.nil,.nil,.nil] [(0,2,.l 0)]),w 4 (.al [.nil,.nil,.nil,.nil] [(2,1),(3,1)]),u (.st l0 l1 4 [(2,1),(3,1)])] [] (.seq (q [f 1 v2,w 8 (.ld l0 1 false),w 9 (.ln l0),x 10 (.i 0)] [] (.blk 0 K.pt)) (q [h 4 v4,u (.st v3 l0 4 [])] [] .ret)))),res:=[(3,some (4,true))]}
def bz:Fn:= { av:=3,vars:=[0,1,2,4],body:=(q [x 3 (.b false)] [] (q [g v1,m v0,a 1 l1 l0,g l0,g v2,u (.bin .gtr l1 l0),x 3 l0] [] .ret)),res:=[(3,none)]}
def dZ:C:= (.its [u (.bin .lss v17 v16)] [] 0 .skip (.exit 2) (.seq (.blk 3 (q [a 1 v15 v17,g l0,x 9 l0] [] (.reg [m v8,m v1,m v9,a 1 l1 l0,g l0,u (.mx [.l 4,.l 0]),x 8 l0] []))) (.reg [u (.bin .add v17 (.i 1)),x 17 l0] [])))
def kq:C:= .loop true [0,4,9,10,11] K.dZ
def eb:C:= (.its [u (.bin .lss v14 v13)] [] 0 .skip (.exit 0) (.seq (.blk 1 (q [m v14,a 1 v12 v14,g l0,x 6 l2,x 7 l1] [] (q [x 8 (.i 0)] [] (.seq (q [f 2 v3,g l0,m v6,a 1 l1 l0,w 15 (.ld l0 1 false),w 16 (.ln l0),x 17 (.i 0)] [] (.blk 2 K.kq)) (q [f 0 v3,f 1 l0,g l0,m v6,a 10 l1 l0,f 2 l0,g l0,f 0 v3,f 1 l0,g l0,m v6,a 10 l1 l0,f 3 l0,g l0,u (.bin .mul l7 l0),u (.bin .mul l0 (.i 1000)),x 10 l0] [] (q [m v5,m v6,m v8,a 1 l2 l1,u (.st l0 l1 1 [])] [] (.ite [m v7,m v8,u (.bin .gtr l1 l0)] [] 0 (q [m v10,f 3 v3,g l0,m v6,a 1 l1 l0,g l0,m v2,u (.bin .mul l1 l0),u (.bin .add l7 l0),x 11 l0] [] (.reg [m v5,m v6,a 1 l1 l0,g l0,m v7,m v8,u (.bin .sub l1 l0),m v10,u (.bin .mul l1 l0),m v11,u (.bin .add l1 l0),u (.bin .sub l0 (.i 1)),m v11,u (.bin .quo l1 l0),u (.bin .add l10 l0),a 1 (.l 14) (.l 13),u (.st l0 l1 1 [])] [])) .skip))))))) (.reg [u (.bin .add v14 (.i 1)),x 14 l0] [])))
def kr:C:= .loop true [0,4,6,7,8,9,10,11,15,16,17] K.eb
def br:Fn:= { av:=3,vars:=[0,1,2,3,6,7,8,9,10,12,13,14,18,19,20,29,30,31],body:=(q [w 3 (.bx v0 4),w 4 (.mv (.c (.nil)))] [] (q [m v1,u (.ln l0),u (.mk l0 (z0) 1),x 5 l0] [] (.seq (q [x 12 v1,w 13 (.ln l0),x 14 (.i 0)] [] (.blk 0 K.kr)) (q [m v5,x 4 l0] [] .ret)))),res:=[(4,none)]}
def c8:Fn:= { av:=2,vars:=[0,1,2,3,4],body:=(q [w 2 (.bx v0 3),w 3 (.bx v1 4),x 4 (.b false)] [] (.seq (.ite [f 0 v2,g l0,u (.ca N.aS 0 [] [.l 0,.i 0,.i 2147483648]),u (.un .not l0),m l0,y 0 false (.fa v2 1),i 1 false l0,y 2 false (.ca N.aS 0 [] [.l 0,.i 0,.i 1000000]),y 3 false (.un .not l0),u (.pk l4 (.b true) l0),m l0,y 0 false (.fa v2 2),i 1 false l0,y 2 false (.ln l0),y 3 false (.bin .eql l0 (.i 0)),u (.pk l4 (.b true) l0),m l0,y 0 false (.fa v2 2),i 1 false l0,y 2 false (.ca N.bl 0 [] [.l 0,.i 0,.i 127]),y 3 false (.un .not l0),u (.pk l4 (.b true) l0),m l0,y 0 false (.fa v3 1),i 1 false l0,y 2 false (.ca N.aS 0 [] [.l 0,.i 0,.i 2147483648]),y 3 false (.un .not l0),u (.pk l4 (.b true) l0)] [] 0 (q [x 4 (.b false)] [] .ret) .skip) (.seq (.ite [f 0 v3,g l0,u (.bin .eql l0 (.i 0))] [] 0 (q [f 2 v3,g l0,u (.bin .eql l0 (.i 0)),m l0,y 0 true (.fa v3 3),i 1 true l0,y 2 true (.bin .eql l0 (.i 0)),u (.pk l3 l0 (.b false)),x 4 l0] [] .ret) .skip) (q [f 0 v3,g l0,u (.ca N.aS 0 [] [.l 0,.i 1,.i 2]),m l0,y 0 true (.fa v3 2),i 1 true l0,y 2 true (.fa v3 3),i 3 true l0,y 4 true (.ca N.dL 0 [] [.l 2,.l 0]),u (.pk l5 l0 (.b false)),x 4 l0] [] .ret)))),res:=[(4,none)]}
def dL:Fn:= { av:=2,vars:=[0,1,4],body:=(q [x 2 (.b false)] [] (q [m v0,u (.bin .gtr l0 (.i 0)),m l0,e 0 true v1,y 1 true (.bin .gtr l0 (.i 0)),u (.pk l2 l0 (.b false)),m l0,e 0 true v0,e 1 true v1,y 2 true (.bin .neq l1 l0),u (.pk l3 l0 (.b false)),x 2 l0] [] .ret)),res:=[(2,none)]}
def iV:C:= (.its [u (.bin .lss v12 v11)] [] 0 .skip (.exit 0) (.seq (.blk 1 (q [m v12,a 1 v10 v12,g l0,x 7 l2,x 8 l1] [] (q [m v2,m v7,a 2 l1 l0,h 2 l0,w 9 (.al [z0,z0] []),u (.st l0 l1 2 [])] [] (.ite [m v8,f 1 v5,g l0,u (.ln l0),u (.bin .geq l3 l0),m l0,y 0 false (.fa v5 1),i 1 false l0,e 2 false v8,y 3 false (.ia l1 l0 1),i 4 false l0,y 5 false (.fa v4 1),i 6 false l0,y 7 false (.bin .gtr l2 l0),u (.pk l8 (.b true) l0),m l0,y 0 false (.fa v9 1),i 1 false l0,y 2 false (.fa v4 1),i 3 false l0,y 4 false (.bin .gtr l2 l0),u (.pk l5 (.b true) l0),m l0,y 0 false (.fa v9 0),i 1 false l0,y 2 false (.fa v9 1),i 3 false l0,y 4 false (.bin .gtr l2 l0),u (.pk l5 (.b true) l0)] [] 0 (q [x 6 (.b false)] [] .ret) .skip)))) (.reg [u (.bin .add v12 (.i 1)),x 12 l0] [])))
def lr:C:= .loop true [0,1,3,6,7,8,9] K.iV
def c9:Fn:= { av:=4,vars:=[0,1,2,3,4,5,8,9,10,11,31,32,33],body:=(q [w 4 (.bx v0 3),w 5 (.bx v1 2),x 6 (.b false)] [] (.seq (.ite [h 3 v4,u (.bd [z0,z0,z0,z0] []),u (.ca N.c8 0 [] [.l 1,.l 0]),u (.un .not l0),m l0,e 0 false v2,y 1 false (.ln l0),y 2 false (.fa v4 2),i 3 false l0,y 4 false (.ln l0),y 5 false (.bin .neq l3 l0),u (.pk l6 (.b true) l0),m l0,y 0 false (.fa v5 0),i 1 false l0,e 2 false v3,y 3 false (.bin .gtr l1 l0),u (.pk l4 (.b true) l0)] [] 0 (q [x 6 (.b false)] [] .ret) .skip) (.seq (q [f 2 v4,w 10 (.ld l0 1 false),w 11 (.ln l0),x 12 (.i 0)] [] (.blk 0 K.lr)) (q [x 6 (.b true)] [] .ret)))),res:=[(6,none)]}
def cA:Fn:= { av:=2,vars:=[0,1,2,3,4],body:=(q [w 2 (.bx v0 2),w 3 (.bx v1 2),x 4 (.b false)] [] (q [h 2 v2,u (.ca N.bL 0 [] [.l 0]),m l0,y 0 true (.fa v3 1),i 1 true l0,y 2 true (.ln l0),y 3 true (.fa v2 1),i 4 true l0,y 5 true (.ln l0),y 6 true (.bin .eql l3 l0),u (.pk l7 l0 (.b false)),m l0,y 0 true (.fa v3 0),i 1 true l0,y 2 true (.ca N.aS 0 [] [.l 0,.i 0,.i 2147483648]),u (.pk l3 l0 (.b false)),m l0,y 0 true (.fa v3 1),i 1 true l0,y 2 true (.ca N.ai 0 [] [.l 0,.c (.fn N.bD [])]),y 3 true (.un .not l0),u (.pk l4 l0 (.b false)),x 4 l0] [] .ret)),res:=[(4,none)]}
def bk:Fn:= { av:=1,vars:=[0,1,2],body:=(q [w 1 (.bx v0 2),x 2 (.b false)] [] (q [f 0 v1,g l0,u (.bin .lss l0 (.i (-1125899906842624))),m l0,y 0 false (.fa v1 1),i 1 false l0,y 2 false (.bin .gtr l0 (.i 1125899906842624)),u (.pk l3 (.b true) l0),m l0,y 0 false (.fa v1 0),i 1 false l0,y 2 false (.fa v1 1),i 3 false l0,y 4 false (.bin .gtr l2 l0),u (.pk l5 (.b true) l0),x 2 l0] [] .ret)),res:=[(2,none)]}
def dM:C:= (.its [u (.bin .lss v10 v9)] [] 0 .skip (.exit 2) (.seq (.blk 3 (q [m v10,x 8 l0] [] (.ite [g v5,m v8,a 1 l1 l0,g l0,u (.un .not l0),m l0,y 0 true (.ld v3 2 true),e 1 true v1,e 2 true v8,e 3 true v7,y 4 true (.ca N.cB 0 [] [.l 3,.l 2,.l 1,.l 0]),u (.pk l5 l0 (.b false))] [] 0 (q [g v5,m v8,a 1 l1 l0,u (.st l0 (.b true) 1 [])] [] (.reg [m v6,m v8,u (.bs [.l 0] 1),u (.app l2 l0 true 1),x 6 l0] [])) .skip))) (.reg [u (.bin .add v10 (.i 1)),x 10 l0] [])))
def lD:C:= .loop true [0,2,4,8] K.dM
def iJ:C:= (.seq (.ite [m v6,u (.ln l0),u (.bin .gtr l0 (.i 0))] [] 0 .skip (.exit 0)) (.blk 1 (q [m v6,a 1 l0 (.i 0),g l0,x 7 l0] [] (q [m v6,u (.sc l0 (some (.i 1)) none 1),x 6 l0] [] (q [f 1 v3,g l0,w 9 (.ln l0),x 10 (.i 0)] [] (.blk 2 K.lD))))))
def lE:C:= .loop true [0,2,4,7,8,9,10] K.iJ
def bP:Fn:= { av:=3,vars:=[0,1,2,3,6,7,8,9,10,42,43],body:=(q [w 3 (.bx v0 2),w 4 (.mv (.c (.nil)))] [] (.seq (.ite [m v2,f 1 v3,g l0,u (.ln l0),u (.bin .sub l0 (.i 1)),u (.ca N.aS 0 [] [.l 4,.i 0,.l 0]),u (.un .not l0),m l0,e 0 false v1,y 1 false (.ln l0),y 2 false (.fa v3 1),i 3 false l0,y 4 false (.ln l0),y 5 false (.bin .neq l3 l0),u (.pk l6 (.b true) l0)] [] 0 (q [w 4 (.mv (.c (.nil)))] [] .ret) .skip) (q [f 1 v3,g l0,u (.ln l0),u (.mk l0 (z1) 1),w 5 (.al [.nil] []),u (.st l0 l1 1 [])] [] (q [m v2,u (.bsq l0),x 6 l0] [] (.seq (.blk 0 K.lE) (q [g v5,u (.ln l0),u (.mf N.bg [.v 5]),u (.ca N.dr 0 [] [.l 1,.l 0]),x 4 l0] [] .ret)))))),res:=[(4,none)]}
def bD:Fn:= { av:=1,vars:=[0,2],body:=(q [x 1 (.b false)] [] (q [m v0,u (.ca N.aS 0 [] [.l 0,.i 0,.i 1000000]),u (.un .not l0),x 1 l0] [] .ret)),res:=[(1,none)]}
def cB:Fn:= { av:=4,vars:=[0,1,2,3,4,8,9,12],body:=(q [w 4 (.bx v0 2),x 5 (.b false)] [] (q [f 1 v4,g l0,m v2,a 10 l1 l0,h 10 l0,m v1,m v2,a 2 l1 l0,h 2 l0,u (.ca N.bE 0 [] [.l 4,.l 0]),m l0,u (.ex l0 0),u (.ex l1 1),x 6 l1,m l1] [] (q [w 7 (.al [.nil] []),f 1 v4,g l0,m v3,a 10 l1 l0,h 10 l0,m v1,m v3,a 2 l1 l0,h 2 l0,u (.ca N.bE 0 [] [.l 4,.l 0]),m l0,u (.ex l0 0),u (.ex l1 1),m l1,u (.st (.l 14) l1 1 [])] [(0,11)] (q [m v6,u (.mf N.bq [.v 4,.v 7]),u (.ca N.ai 0 [] [.l 1,.l 0]),x 5 l0] [] .ret)))),res:=[(5,none)]}
def bg:Fn:= { av:=2,vars:=[0,1,3],body:=(q [x 2 (.b false)] [] (q [g v1,m v0,a 1 l1 l0,g l0,x 2 l0] [] .ret)),res:=[(2,none)]}
def bE:Fn:= { av:=2,vars:=[0,1,2,3,4,5],body:=(q [w 2 (.bx v0 10),w 3 (.bx v1 2),w 4 (.nw 1),w 5 (.nw 1)] [] (.seq (.ite [f 5 v2,g l0] [] 0 (q [w 4 (.nw 1),w 5 (.nw 1)] [] .ret) .skip) (.seq (.ite [f 1 v3,g l0,u (.bin .gtr l0 (.i 0))] [] 0 (.reg [m v4,f 1 v2,g l0,u (.bs [.l 0] 1),u (.app l3 l0 true 1),m v5,f 0 v2,g l0,u (.bs [.l 0] 1),u (.app l3 l0 true 1),x 4 l5,x 5 l1] [(3,3),(7,0),(8,0)]) .skip) (.seq (.ite [f 0 v3,g l0,u (.bin .lss l0 (.i 0))] [] 0 (.reg [m v4,f 0 v2,g l0,u (.bs [.l 0] 1),u (.app l3 l0 true 1),m v5,f 1 v2,g l0,u (.bs [.l 0] 1),u (.app l3 l0 true 1),x 4 l5,x 5 l1] [(3,3),(7,0),(8,0)]) .skip) (q [m v4,m v5,x 4 l1,x 5 l1] [] .ret))))),res:=[(4,none),(5,none)]}
def bq:Fn:= { av:=3,vars:=[0,1,2,4],body:=(q [x 3 (.b false)] [] (q [m v0,f 0 v1,g l0,u (.ln l0),u (.bin .sub l0 (.i 1)),u (.ca N.aS 0 [] [.l 4,.i 0,.l 0]),m l0,y 0 true (.fa v1 0),i 1 true l0,e 2 true v0,y 3 true (.ia l1 l0 2),y 4 true (.fa l0 1),i 5 true l0,y 6 true (.un .not l0),u (.pk l7 l0 (.b false)),m l0,i 0 true v2,e 1 true v0,y 2 true (.ca N.aK 0 [] [.l 1,.l 0]),u (.pk l3 l0 (.b false)),x 3 l0] [] .ret)),res:=[(3,none)]}
end Go.Ev.K
namespace Go.Ev
class jr [Lib]:Prop where
 lu:Lib.fs N.cy=some K.cy
 kF:Lib.fs N.bZ=some K.bZ
 kG:Lib.fs N.b5=some K.b5
 fZ:Lib.fs N.bN=some K.bN
 lx:Lib.fs N.cz=some K.cz
 kH:Lib.fs N.bO=some K.bO
 mP:Lib.fs N.dK=some K.dK
 jt:Lib.fs N.bz=some K.bz
 iK:Lib.fs N.br=some K.br
 lW:Lib.fs N.c8=some K.c8
 mQ:Lib.fs N.dL=some K.dL
 lX:Lib.fs N.c9=some K.c9
 kI:Lib.fs N.cA=some K.cA
 ju:Lib.fs N.bk=some K.bk
 jv:Lib.fs N.bP=some K.bP
 jw:Lib.fs N.bD=some K.bD
 kJ:Lib.fs N.cB=some K.cB
 iL:Lib.fs N.bg=some K.bg
 ly:Lib.fs N.bE=some K.bE
 jx:Lib.fs N.bq=some K.bq
namespace K
variable [Lib] [jr]
theorem lu:Lib.fs N.cy=some K.cy:=jr.lu
theorem kF:Lib.fs N.bZ=some K.bZ:=jr.kF
theorem kG:Lib.fs N.b5=some K.b5:=jr.kG
theorem fZ:Lib.fs N.bN=some K.bN:=jr.fZ
theorem lx:Lib.fs N.cz=some K.cz:=jr.lx
theorem kH:Lib.fs N.bO=some K.bO:=jr.kH
theorem mP:Lib.fs N.dK=some K.dK:=jr.mP
theorem jt:Lib.fs N.bz=some K.bz:=jr.jt
theorem iK:Lib.fs N.br=some K.br:=jr.iK
theorem lW:Lib.fs N.c8=some K.c8:=jr.lW
theorem mQ:Lib.fs N.dL=some K.dL:=jr.mQ
theorem lX:Lib.fs N.c9=some K.c9:=jr.lX
theorem kI:Lib.fs N.cA=some K.cA:=jr.kI
theorem ju:Lib.fs N.bk=some K.bk:=jr.ju
theorem jv:Lib.fs N.bP=some K.bP:=jr.jv
theorem jw:Lib.fs N.bD=some K.bD:=jr.jw
theorem kJ:Lib.fs N.cB=some K.cB:=jr.kJ
theorem iL:Lib.fs N.bg=some K.bg:=jr.iL
theorem ly:Lib.fs N.bE=some K.bE:=jr.ly
theorem jx:Lib.fs N.bq=some K.bq:=jr.jx
end K
end Go.Ev
namespace Go.Ev
open Go
section
variable (H : aj) (id ep : Nat) (es : List T)
def Ky(ep:Nat):Option Obj→Bool
 | some (.own ep')=>ep==ep'
 | _=>false
@[go_sem] theorem aaL (ep : Nat) : Ky ep (some (.own ep)) = true := by simp [Ky]
theorem AM:vq H id ep=Ky ep H[id]?:=by
 unfold vq Ky
 cases H[id]? with
 | none=>rfl
 | some o=>cases o<;>rfl
@[go_sem] theorem aeI : SW H (.q id ep es) = some (I es.length, H) := (rfl)
@[go_sem] theorem aeJ (k : IntKind) (a : Int) : KY H 1 (some (.q id ep (.int k a :: es))) (some (.t (.int .i64 0))) = if Ky ep H[id]? = true then some (.ep [.int k a], H) else none := by
 simp only[KY,aLq,intOf,yu,idx,AM]
 cases Ky ep H[id]?<;>simp[T.cells]
@[go_sem] theorem aeK (x : T) : Ay H 1 (some (.q id ep (x :: es))) (some (some 1)) (some none) = if Ky ep H[id]? = true then some (.q id ep es, H) else none := by
 simp only[Ay,aLq,lL,bound,idx,AM]
 cases Ky ep H[id]?<;>simp
@[go_sem] theorem adx (k : IntKind) (a : Int) : mH H 1 true (some (.q id ep es)) (some (.t (.sl [.int k a]))) = if es.length + 1 ≤ 4294967296 then (if Ky ep H[id]? = true then some (.q id (ep + 1) (es ++ [.int k a]), H.set id (.own (ep + 1))) else none) else none := by
 simp only[mH,aLq,kY,elems,List.map_cons,List.map_nil,bQ,frz,aLw,if_true,List.flatMap_cons,List.flatMap_nil,fU,pins,List.append_nil,bM,D.cells,T.cells,AM,T.scalar,lim]
 by_cases h1:es.length+1≤4294967296
 · cases h2:Ky ep H[id]?<;>simp[h1,h2,pins,depth,frz,fU]
 · simp[h1,pins,depth,frz,fU]
@[go_sem] theorem afy (k n : Nat) : old k n (.q id ep es) = ltB id k := by cases n <;> simp [old, mI]
@[go_sem] theorem afz (n : Nat) : ids n (.q id ep es) = [id] := by cases n <;> rfl
end
end Go.Ev
namespace Go.Ev
open Go
structure Blt where
 onto:Int
 warn:Int
instance : Dat Blt := ⟨⟨0, 0⟩⟩
abbrev Blt.e(b:Blt):T:= .agg [tI b.onto,tI b.warn]
structure Lne where
 time:Int
 st:List Int
 since:List Int
 pu:List Bool
 he:List Bool
abbrev tBs(l:List Bool):T:= .sl (l.map .bool)
abbrev Lne.e(x:Lne):T:= .agg [tI x.time,tL x.st,tL x.since,tBs x.pu,tBs x.he]
structure Lne.ok(l:List Blt)(x:Lne):Prop where
 t0:0≤x.time
 t1:x.time≤2147483648
 s:x.st.length=l.length
 c:x.since.length=l.length
 p:x.pu.length=l.length
 h:x.he.length=l.length
 b:∀i,i<l.length→(0≤nth x.st i∧nth x.st i≤2)∧(0≤nth x.since i∧nth x.since i≤x.time)
 r:∀i,i<l.length→nth x.st i≠0→nth x.pu i=false∧nth x.he i=false∧(0≤(nth l i).onto→nth x.st (nth l i).onto.toNat=2)
end Go.Ev
namespace Go.Ev
open Go
variable [Lib]
theorem sG{α:Type} [Dat α](l:List α)(i k:Nat)(a:α)(hk:k<l.length):nth (l.set i a) k=if i=k then a else nth l k:=by
 have e:∀m:List α,k<m.length→m[k]?=some (nth m k):=fun m h=>by
  rw[aLc h]
  exact congrArg some (oe (aLc h)).symm
 by_cases c:i=k
 · subst c
   rw[if_pos rfl]
   exact oe (by rw[aLj hk])
 · rw[if_neg c]
   exact oe (by rw[aLi c];exact e l hk)
theorem zR{n:Nat}{p:Nat→Bool}{a:Int}:a∈j4 n p↔∃j:Nat,a=j∧j<n∧p j=true:=by
 unfold j4
 simp only[List.mem_map,List.mem_filter,aLu]
 constructor
 · rintro ⟨j,⟨h1,h2⟩,rfl⟩
   exact⟨j,rfl,h1,h2⟩
 · rintro ⟨j,rfl,h1,h2⟩
   exact⟨j,⟨h1,h2⟩,rfl⟩
theorem wy{α:Type} [Dat α]{a:α}{n k:Nat}(h:k<n):nth (List.replicate n a) k=a:=oe (by rw[List.getElem?_replicate,if_pos h])
inductive TC(f:Nat→Nat→Bool)(n:Nat):Nat→Nat→Prop
 | one (a b:Nat) (ha:a<n) (hb:b<n) (h:f a b=true):TC f n a b
 | more (a b c:Nat) (ha:a<n) (hb:b<n) (h:f a b=true) (t:TC f n b c):TC f n a c
theorem TC.trans{f:Nat→Nat→Bool}{n a b c:Nat}(h:TC f n a b)(h2:TC f n b c):TC f n a c:=by
 induction h with
 | one a b ha hb h=>exact .more a b c ha hb h h2
 | more a b d ha hb h t ih=>exact .more a b c ha hb h (ih h2)
theorem TC.lt{f:Nat→Nat→Bool}{n a b:Nat}(h:TC f n a b):a<n∧b<n:=by
 induction h with
 | one a b ha hb h=>exact⟨ha,hb⟩
 | more a b c ha hb h t ih=>exact⟨ha,ih.2⟩
noncomputable def ady(f:Nat→Nat→Bool)(n r:Nat)(a:Nat):Bool:=@decide (TC f n a r) (Classical.propDecidable _)
theorem AN{f:Nat→Nat→Bool}{n r a:Nat}:ady f n r a=true↔TC f n a r:=by
 unfold ady
 exact @decide_eq_true_iff _ (Classical.propDecidable _)
noncomputable def u9(f:Nat→Nat→Bool)(n r:Nat):List Int:=j4 n (ady f n r)
def vE(h:List Int):List Int→Int→Int
 | [],c=>c
 | a::l,c=>vE h l (if c<nth h a.toNat then nth h a.toNat else c)
theorem AO(h:List Int):∀(l:List Int) (c:Int),c≤vE h l c
 | [],c=>Int.le_refl _
 | a::l,c=>by
   unfold vE
   refine Int.le_trans ?_ (AO h l _)
   split<;>omega
theorem Fy(h:List Int):∀(l:List Int) (c:Int),∀a∈l,nth h a.toNat≤vE h l c
 | [],c,a,ha=>by simp at ha
 | b::l,c,a,ha=>by
   unfold vE
   rcases List.mem_cons.1 ha with e | e
   · subst e
     refine Int.le_trans ?_ (AO h l _)
     split<;>omega
   · exact Fy h l _ a e
theorem xC(h:List Int):∀(l:List Int),(∀a∈l,nth h a.toNat=0)→vE h l 0=0
 | [],_=>rfl
 | a::l,hz=>by
   unfold vE
   rw[hz a (by simp),if_neg (by omega)]
   exact xC h l fun b hb=>hz b (by simp[hb])
theorem D7(h:List Int)(M:Int):∀(l:List Int) (c:Int),c≤M→(∀a∈l,nth h a.toNat≤M)→vE h l c≤M
 | [],c,hc,_=>hc
 | a::l,c,hc,hz=>by
   unfold vE
   refine D7 h M l _ ?_ fun b hb=>hz b (by simp[hb])
   have:=hz a (by simp)
   split<;>omega
def NV(r:Road):Int:=r.len*r.area*1000
def yJ(r:Road)(s:Spn):Int:=if r.closed=true then 0 else min (max (max 0 s.low) (0-s.high)) 1048576
def Cp(h c v q:Int)(s:Int):Int:=if c<h then c+((h-c)*v+(v+q*s)-1).tdiv (v+q*s)else c
theorem FA{h c v q s:Int}(hc:c≤h)(v0:1≤v)(q0:0≤q)(s0:0≤s):c≤Cp h c v q s∧Cp h c v q s≤h:=by
 unfold Cp
 have qs:=Int.mul_nonneg q0 s0
 split
 · rename_i l
   have d0:0≤(h-c)*v:=Int.mul_nonneg (by omega) (by omega)
   have e:((h-c)*v+(v+q*s)-1).tdiv (v+q*s)=((h-c)*v+(v+q*s)-1) / (v+q*s):=Int.tdiv_eq_ediv_of_nonneg (by omega)
   rw[e]
   have a1:0≤((h-c)*v+(v+q*s)-1) / (v+q*s):=Int.ediv_nonneg (by omega) (by omega)
   have a2:((h-c)*v+(v+q*s)-1) / (v+q*s)<(h-c)+1:=by
    rw[Int.ediv_lt_iff_lt_mul (by omega)]
    have:(h-c)*v≤(h-c)*(v+q*s):=Int.mul_le_mul_of_nonneg_left (by omega) (by omega)
    rw[Int.add_mul]
    omega
   omega
 · omega
theorem xD{h c v q s:Int}(hc:h≤c):Cp h c v q s=c:=by
 unfold Cp
 rw[if_neg (by omega)]
noncomputable def GI(m:fJ)(fl:List Spn)(f:Nat→Nat→Bool)(h:List Int)(s:Int):List Int:=
 (List.range m.roads.length).map fun i=>Cp (nth h i) (vE h (u9 f m.roads.length i) 0) (NV (nth m.roads i)) (yJ (nth m.roads i) (nth fl i)) s
theorem wz(m:fJ)(fl:List Spn)(f:Nat→Nat→Bool)(h:List Int)(s:Int):(GI m fl f h s).length=m.roads.length:=by simp[GI]
theorem sH(m:fJ)(fl:List Spn)(f:Nat→Nat→Bool)(h:List Int)(s:Int){i:Nat}(hi:i<m.roads.length):
 nth (GI m fl f h s) i=Cp (nth h i) (vE h (u9 f m.roads.length i) 0) (NV (nth m.roads i)) (yJ (nth m.roads i) (nth fl i)) s:=
 oe (by simp[GI,hi])
noncomputable def vd(m:fJ)(fl:List Spn)(f:Nat→Nat→Bool)(q:Nat):Nat→List Int
 | 0=>(List.replicate m.roads.length (0:Int)).set q 2000
 | k+1=>GI m fl f (vd m fl f q k) 60
theorem nW(m:fJ)(fl:List Spn)(f:Nat→Nat→Bool)(q k:Nat):(vd m fl f q k).length=m.roads.length:=by
 cases k with
 | zero=>simp[vd]
 | succ k=>exact wz _ _ _ _ _
theorem sI{f:Nat→Nat→Bool}{n r:Nat}{a:Int}(h:a∈u9 f n r):∃j:Nat,a=j∧j<n∧TC f n j r:=by
 unfold u9 at h
 rw[zR]at h
 obtain⟨j,e,hj,h⟩:=h
 exact⟨j,e,hj,AN.1 h⟩
section
variable {m : fJ} (hm : m.ok) {fl : List Spn} {f : Nat → Nat → Bool} {q : Nat} (hq : q < m.roads.length)
include hm hq
theorem JC{i:Nat}(hi:i<m.roads.length):1≤NV (nth m.roads i)∧NV (nth m.roads i)≤100000000000∧0≤yJ (nth m.roads i) (nth fl i)∧yJ (nth m.roads i) (nth fl i)≤1048576:=by
 have r:=hm.rs _ (jo hi)
 have l0:=r.l0
 have l1:=r.l1
 have a0:=r.a0
 have a1:=r.a1
 have p0:1≤(nth m.roads i).len*(nth m.roads i).area:=by
  have:=Int.mul_le_mul l0 a0 (by omega) (by omega)
  simpa using this
 have p1:(nth m.roads i).len*(nth m.roads i).area≤100000*1000:=Int.mul_le_mul l1 a1 (by omega) (by omega)
 refine⟨by unfold NV;omega,by unfold NV;omega,?_⟩
 unfold yJ
 split
 · omega
 · rw[Int.min_def,Int.max_def,Int.max_def]
   split<;>split<;>(try split)<;>omega
theorem p7:∀k i,i<m.roads.length→0≤nth (vd m fl f q k) i∧nth (vd m fl f q k) i≤2000
 | 0,i,hi=>by
   unfold vd
   rw[sG _ _ _ _ (by simpa using hi)]
   split
   · omega
   · rw[wy hi];omega
 | k+1,i,hi=>by
   unfold vd
   rw[sH _ _ _ _ _ hi]
   have v:=JC hm hq (fl:=fl) hi
   have b:=p7 k i hi
   have t0:=AO (vd m fl f q k) (u9 f m.roads.length i) 0
   have t1:=D7 (vd m fl f q k) 2000 (u9 f m.roads.length i) 0 (by omega) fun a ha=>by
    obtain⟨j,rfl,hj,_⟩:=sI ha
    rw[Int.toNat_natCast]
    exact(p7 k j hj).2
   generalize vE (vd m fl f q k) (u9 f m.roads.length i) 0=c at*
   by_cases l:c≤nth (vd m fl f q k) i
   · have:=FA l v.1 v.2.2.1 (s:=60) (by omega)
     omega
   · rw[xD (by omega)];omega
theorem tQ(hs:¬TC f m.roads.length q q):∀k i,i<m.roads.length→TC f m.roads.length i q→nth (vd m fl f q k) i=0
 | 0,i,hi,t=>by
   unfold vd
   rw[sG _ _ _ _ (by simpa using hi),if_neg (fun e=>hs (by subst e;exact t)),wy hi]
 | k+1,i,hi,t=>by
   unfold vd
   rw[sH _ _ _ _ _ hi]
   have z:vE (vd m fl f q k) (u9 f m.roads.length i) 0=0:=xC _ _ fun a ha=>by
    obtain⟨j,rfl,hj,tj⟩:=sI ha
    rw[Int.toNat_natCast]
    exact tQ hs k j hj (tj.trans t)
   rw[z,tQ hs k i hi t,xD (by omega)]
theorem GJ(hs:¬TC f m.roads.length q q)(k:Nat):nth (vd m fl f q (k+1)) q≤nth (vd m fl f q k) q:=by
 rw[vd]
 rw[sH _ _ _ _ _ hq]
 have v:=JC hm hq (fl:=fl) hq
 have b:=p7 hm hq (fl:=fl) (f:=f) k q hq
 have z:vE (vd m fl f q k) (u9 f m.roads.length q) 0=0:=xC _ _ fun a ha=>by
  obtain⟨j,rfl,hj,tj⟩:=sI ha
  rw[Int.toNat_natCast]
  exact tQ hm hq hs k j hj tj
 rw[z]
 exact(FA b.1 v.1 v.2.2.1 (by omega)).2
theorem FB(hs:TC f m.roads.length q q):∀k,2000≤nth (vd m fl f q k) q
 | 0=>by
   unfold vd
   rw[sG _ _ _ _ (by simpa using hq),if_pos rfl];omega
 | k+1=>by
   have ih:=FB hs k
   rw[vd]
   rw[sH _ _ _ _ _ hq]
   have t:=Fy (vd m fl f q k) (u9 f m.roads.length q) 0 (q:Int) (by unfold u9;rw[zR];exact⟨q,rfl,hq,AN.2 hs⟩)
   rw[Int.toNat_natCast]at t
   rw[xD t]
   omega
theorem GK{k:Nat}(h:nth (vd m fl f q k) q≤50):nth (vd m fl f q (k+1)) q≤50:=by
 by_cases hs:TC f m.roads.length q q
 · have:=FB hm hq hs (fl:=fl) k
   omega
 · have:=GJ hm hq hs (fl:=fl) k
   omega
end
end Go.Ev
namespace Go.Ev
open Go
variable [Lib] [dt] [dm] [kg] [jj] [mh] [gY] [i5] [lJ] [jV] [gJ] [jd] [jr]
def L7(r:Road)(s:Spn):List Int:=if r.closed=true then []else(if 0<s.high then [r.to]else [])++(if s.low<0 then [r.frm]else [])
def inF(r:Road)(s:Spn):List Int:=if r.closed=true then []else(if 0<s.high then [r.frm]else [])++(if s.low<0 then [r.to]else [])
theorem L8(r:Road)(s:Spn):(L7 r s).length≤2:=by
 unfold L7
 split
 · simp
 · split<;>split<;>simp
theorem RU(r:Road)(s:Spn):(inF r s).length≤2:=by
 unfold inF
 split
 · simp
 · split<;>split<;>simp
theorem zS(r:Road)(s:Spn):dn 0 N.bE [.t r.e,.t s.e] []=some (.tup [.t (tL (L7 r s)),.t (tL (inF r s))],[]):=by
 refine bG K.ly rfl ?_
 obtain⟨frm,to,len,area,walk,closed,restL,restH,liftL,liftH⟩:=r
 obtain⟨low,high⟩:=s
 unfold L7 inF
 cases closed
 · simp only[aLt,↓reduceIte,Road.e,Spn.e]
   by_cases h1:0<high<;>by_cases h2:low<0<;>simp only[h1,h2,↓reduceIte,tL,List.map_cons,List.map_nil,List.cons_append,List.nil_append]
   · simp(disch:=omega)only[go_sem,K.bE,↓reduceIte,h1,h2,List.map_cons,List.map_nil,reduceAdd,reduceSub]
   · simp(disch:=omega)only[go_sem,K.bE,↓reduceIte,h1,h2,List.map_cons,List.map_nil,reduceAdd,reduceSub]
   · simp(disch:=omega)only[go_sem,K.bE,↓reduceIte,h1,h2,List.map_cons,List.map_nil,reduceAdd,reduceSub]
   · simp(disch:=omega)only[go_sem,K.bE,↓reduceIte,h1,h2,List.map_cons,List.map_nil,reduceAdd,reduceSub]
 · simp only[↓reduceIte,Road.e,Spn.e,tL,List.map_nil]
   simp(disch:=omega)only[go_sem,K.bE,↓reduceIte,List.map_nil,reduceAdd,reduceSub]
def okP(m:fJ)(ins:List Int)(p:Int):Bool:=decide (0≤p∧p≤(m.aP.length:Int)-1)&& !(nth m.aP p.toNat).surf&&decide (p∈ins)
theorem Cq{m:fJ}(hm:m.ok)(ins:List Int)(hi:ins.length≤2)(p:Int):dn 0 N.bq [I p,.bp 0 0,.bp 1 0] [.box (aU m),.box [.t (tL ins)]]=some (B (okP m ins p),[.box (aU m),.box [.t (tL ins)]]):=by
 refine bG K.jx rfl ?_
 have np:=hm.np
 have i1:=tJ p 0 (m.aP.length-1)
 have c:=DN ins p (by omega)
 unfold okP
 by_cases h:0≤p∧p≤(m.aP.length:Int)-1
 · rw[decide_eq_true h]at i1 ⊢
   obtain⟨k,rfl⟩:∃k:Nat,p=k:=⟨p.toNat,by omega⟩
   have ex:(m.aP.map Place.e)[k]?=some (nth m.aP k).e:=i4 _ (by omega)
   simp only[Int.toNat_natCast,Bool.true_and]
   obtain⟨aP,roads⟩:=m
   simp only[aU]at*
   generalize nth aP k=x at*
   obtain⟨hh,surf⟩:=x
   simp only[Place.e]at*
   cases surf
   · simp(disch:=omega)only[go_sem,K.bq,↓reduceIte,i1,c,ex,Bool.not_false,Bool.true_and,reduceAdd,reduceSub]
   · simp(disch:=omega)only[go_sem,K.bq,↓reduceIte,i1,c,ex,Bool.not_true,Bool.false_and,reduceAdd,reduceSub]
 · rw[decide_eq_false h]at i1 ⊢
   obtain⟨aP,roads⟩:=m
   simp only[aU,Bool.false_and]at*
   simp(disch:=omega)only[go_sem,K.bq,↓reduceIte,i1,reduceAdd,reduceSub]
def gK(m:fJ)(fl:List Spn)(a b:Nat):Bool:=(L7 (nth m.roads a) (nth fl a)).any (okP m (inF (nth m.roads b) (nth fl b)))
theorem D8{m:fJ}(hm:m.ok){fl:List Spn}(hf:fl.length=m.roads.length){a b:Nat}(ha:a<m.roads.length)(hb:b<m.roads.length):
 dn 0 N.cB [.t m.e,.t (tS fl),I a,I b] []=some (B (gK m fl a b),[]):=by
 refine bG K.kJ rfl ?_
 have nr:=hm.nr
 have e1:(m.roads.map Road.e)[a]?=some (nth m.roads a).e:=i4 _ ha
 have e2:(m.roads.map Road.e)[b]?=some (nth m.roads b).e:=i4 _ hb
 have e3:(fl.map Spn.e)[a]?=some (nth fl a).e:=i4 _ (by omega)
 have e4:(fl.map Spn.e)[b]?=some (nth fl b).e:=i4 _ (by omega)
 have c1:=zS (nth m.roads a) (nth fl a)
 have c2:=zS (nth m.roads b) (nth fl b)
 have l1:=L8 (nth m.roads a) (nth fl a)
 have l2:=RU (nth m.roads b) (nth fl b)
 have cf:=lQ (L7 (nth m.roads a) (nth fl a)) (by omega) N.bq [[.sl (m.aP.map Place.e),.sl (m.roads.map Road.e)],[tL (inF (nth m.roads b) (nth fl b))]] (okP m (inF (nth m.roads b) (nth fl b)))
  (fun x _=>Cq hm (inF (nth m.roads b) (nth fl b)) (by omega) x)
 have cf:dn 0 N.ai [.t (tL (L7 (nth m.roads a) (nth fl a))),.fn N.bq [.bp 0 0,.bp 1 0]] [.box [.t (.sl (m.aP.map Place.e)),.t (.sl (m.roads.map Road.e))],.box [.t (tL (inF (nth m.roads b) (nth fl b)))]]=
  some (B (gK m fl a b),[.box [.t (.sl (m.aP.map Place.e)),.t (.sl (m.roads.map Road.e))],.box [.t (tL (inF (nth m.roads b) (nth fl b)))]]):=cf
 generalize gK m fl a b=r at*
 generalize L7 (nth m.roads a) (nth fl a)=o1 at*
 generalize inF (nth m.roads a) (nth fl a)=o2 at*
 generalize L7 (nth m.roads b) (nth fl b)=o3 at*
 generalize inF (nth m.roads b) (nth fl b)=o4 at*
 generalize nth m.roads a=ra at*
 generalize nth m.roads b=rb at*
 generalize nth fl a=sa at*
 generalize nth fl b=sb at*
 obtain⟨aP,roads⟩:=m
 simp only at*
 simp(disch:=omega)only[go_sem,K.cB,↓reduceIte,e1,e2,e3,e4,c1,c2,cf,reduceAdd,reduceSub]
end Go.Ev
namespace Go.Ev.K
open Go.Ev
def fY:Fn:= { av:=0,vars:=[0,1,2,3,4,5,6],body:=(q [x 0 (.b false)] [] (q [u (.bd [z0,z0] [(0,1,.i 1),(1,1,.i 1)]),u (.bd [z0,z0,z0,z0,z1,z1,z0,z0,z0,z0] [(2,1,.i 12),(3,1,.i 1),(4,1,.b true),(6,2,.l 0)]),w 1 (.al [z0,z0,z0,z0,z1,z1,z0,z0,z0,z0] []),u (.st l0 l1 10 [])] [] (q [w 2 (.al [z0,z0,z0,z0,z1,z1,z0,z0,z0,z0] []),w 3 (.al [z0,z0,z0,z0,z1,z1,z0,z0,z0,z0] []),h 10 v1,h 10 v1,u (.st l3 l1 10 []),u (.st l3 l1 10 [])] [(3,5)] (q [f 1 v2,u (.st l0 (.i 1) 1 []),f 0 v3,u (.st l0 (.i 1) 1 []),f 1 v3,u (.st l0 (.i 2) 1 [])] [] (q [u (.bd [z0,z1] [(1,1,.b true)]),u (.bd [z0,z1] []),u (.bd [z0,z1] []),u (.bs [.l 2,.l 1,.l 0] 2),h 10 v2,h 10 v3,u (.bs [.l 1,.l 0] 10),u (.bd [.nil,.nil] [(0,1,.l 3),(1,1,.l 0)]),w 4 (.al [.nil,.nil] []),u (.st l0 l1 2 [])] [] (q [w 5 (.al [.nil,.nil,z0,.nil,.nil,.nil,.nil,.nil,.nil,.nil,.nil,.nil,.nil,.nil,.nil,z0,.nil,z0,z0,.nil,.nil,.nil,.nil,.nil,z0,.nil,.nil,.nil,z1,z0,z0,z0,z0,.nil,.nil,.nil] []),h 2 v4,u (.bs [.i 0] 1),u (.bd [.nil,z0,z0,z0] [(0,1,.l 0),(1,1,.i 10)]),u (.bs [.l 0] 4),u (.bs [.i 0] 1),u (.bs [.i 9] 1),u (.mk (.i 2) (.t (.agg [(.int .i64 (0)),(.int .i64 (0))])) 2),u (.bd [.nil,.nil,.nil,z0] [(3,1,.i 900)]),u (.bs [.i 2] 1),u (.bd [.nil,z0,z0] [(0,1,.l 0),(1,1,.i 9),(2,1,.i 9)]),u (.bs [.i 1] 1),u (.ca N.jM 0 [] [.l 10,.l 7,.l 6,.l 5,.l 4,.l 3,.l 1,.l 0]),m l0,u (.ex l0 0),u (.ex l1 1),u (.st (.l 15) l1 36 []),x 6 l1] [(0,8),(0,13),(1,8),(2,8),(4,8),(5,8),(6,8),(9,1),(11,1)] (q [h 36 v5,u (.bd [z0,z0,z0,z0] [(0,1,.i 7)]),u (.bd [z0,z0,z0,z0] [(0,1,.i 8),(1,1,.i 1)]),u (.bd [z0,z0,z0,z0] [(0,1,.i 9),(1,1,.i 2)]),u (.bd [z0,z0,z0,z0] [(0,1,.i 2),(2,1,.i 1)]),u (.bd [z0,z0,z0,z0] [(0,1,.i 10)]),u (.bs [.l 4,.l 3,.l 2,.l 1,.l 0] 4),u (.ca N.mB 0 [] [.l 6,.l 0]),u (.st v5 l0 36 [])] [] (q [m v6,u (.bin .eql l0 (.i 0)),m l0,y 0 true (.fa v5 35),i 1 true l0,y 2 true (.ln l0),y 3 true (.bin .eql l0 (.i 5)),u (.pk l4 l0 (.b false)),m l0,y 0 true (.fa v5 29),y 1 true (.fa l0 0),i 2 true l0,y 3 true (.bin .eql l0 (.i 3)),u (.pk l4 l0 (.b false)),m l0,y 0 true (.fa v5 35),i 1 true l0,y 2 true (.ia l0 (.i 3) 7),y 3 true (.fa l0 5),i 4 true l0,y 5 true (.bin .eql l0 (.i 47)),u (.pk l6 l0 (.b false)),m l0,y 0 true (.fa v5 26),y 1 true (.fa l0 2),i 2 true l0,u (.pk l3 l0 (.b false)),m l0,y 0 true (.ld v5 36 true),y 1 true (.ca N.iG 0 [] [.l 0]),y 2 true (.ln l0),y 3 true (.bin .eql l0 (.i 0)),u (.pk l4 l0 (.b false)),x 0 l0] [] .ret)))))))),res:=[(0,none)]}
def Cr:C:= (.its [u (.bin .lss v7 v6)] [] 0 .skip (.exit 0) (.seq (.blk 1 (q [a 4 v5 v7,h 4 l0,w 4 (.al [z0,z0,z0,z0] []),u (.st l0 l1 4 [])] [] (.reg [h 36 v2,h 4 v4,u (.ca N.kV 0 [] [.l 1,.l 0]),m l0,u (.ex l0 0),u (.ex l1 1),u (.st v2 l1 36 [])] []))) (.reg [u (.bin .add v7 (.i 1)),x 7 l0] [])))
def D9:C:= .loop true [0,1,4] K.Cr
def mB:Fn:= { av:=2,vars:=[0,1,2,4,6,7,8,9],body:=(q [w 2 (.bx v0 36),w 3 (.al [.nil,.nil,z0,.nil,.nil,.nil,.nil,.nil,.nil,.nil,.nil,.nil,.nil,.nil,.nil,z0,.nil,z0,z0,.nil,.nil,.nil,.nil,.nil,z0,.nil,.nil,.nil,z1,z0,z0,z0,z0,.nil,.nil,.nil] [])] [] (.seq (q [x 5 v1,w 6 (.ln l0),x 7 (.i 0)] [] (.blk 0 K.D9)) (q [h 36 v2,u (.ca N.eH 0 [] [.l 0]),u (.st v3 l0 36 [])] [] .ret))),res:=[(3,some (36,true))]}
def xE:C:= (.its [u (.bin .lss v8 v7)] [] 0 .skip (.exit 0) (.seq (.blk 1 (q [m v8,a 1 v6 v8,g l0,x 4 l2,x 5 l1] [] (.ite [m v5,h 36 v1,u (.cw l1 0 [] [.l 0]),u (.un .not l0)] [] 0 (.reg [m v3,m v4,u (.bin .add l0 (.i 1)),u (.bs [.l 0] 1),u (.app l3 l0 true 1),x 3 l0] []) .skip))) (.reg [u (.bin .add v8 (.i 1)),x 8 l0] [])))
def yK:C:= .loop true [0,2,4,5] K.xE
def iG:Fn:= { av:=1,vars:=[0,1,2,3,4,5,6,7,8],body:=(q [w 1 (.bx v0 36),w 2 (.mv (.c (.nil)))] [] (q [w 3 (.nw 1)] [] (.seq (q [w 6 (.ca N.iH 2 [] []),w 7 (.ln l0),x 8 (.i 0)] [] (.blk 0 K.yK)) (q [m v3,x 2 l0] [] .ret)))),res:=[(2,none)]}
def kV:Fn:= { av:=2,vars:=[0,1,2,3,4,5,6,7,8,9],body:=(q [w 2 (.bx v0 36),w 3 (.bx v1 4),w 4 (.al [.nil,.nil,z0,.nil,.nil,.nil,.nil,.nil,.nil,.nil,.nil,.nil,.nil,.nil,.nil,z0,.nil,z0,z0,.nil,.nil,.nil,.nil,.nil,z0,.nil,.nil,.nil,z1,z0,z0,z0,z0,.nil,.nil,.nil] []),x 5 (.i 0)] [] (.seq (.ite [f 35 v2,g l0,u (.ln l0),u (.bin .geq l0 (.i 200))] [] 0 (q [h 36 v2,u (.st v4 l0 36 []),x 5 (.i 2)] [] .ret) .skip) (.seq (.ite [h 36 v2,u (.ca N.jN 0 [] [.l 0]),u (.un .not l0)] [] 0 (q [h 36 v2,u (.st v4 l0 36 []),x 5 (.i 6)] [] .ret) .skip) (q [h 36 v2,u (.ca N.eH 1 [] [.l 0]),u (.bd [.nil,.nil,z0,.nil,.nil,.nil,.nil,.nil,.nil,.nil,.nil,.nil,.nil,.nil,.nil,z0,.nil,z0,z0,.nil,.nil,.nil,.nil,.nil,z0,.nil,.nil,.nil,z1,z0,z0,z0,z0,.nil,.nil,.nil,.nil] [(0,36,.l 0)]),u (.bx l0 37),x 6 l0] [] (q [x 7 (.i 55)] [] (.seq (q [f 0 v3,g l0,u (.ca N.kW 0 [] [.l 0]),x 8 l0] [] (.ite [m v8,u (.fnz true l0)] [] 0 (.reg [m v8,m v6,h 4 v3,u (.cw l2 0 [] [.l 1,.l 0]),x 7 l0] []) .skip)) (q [m v6,u (.nc l0),f 0 l0,h 36 l0,w 9 (.al [.nil,.nil,z0,.nil,.nil,.nil,.nil,.nil,.nil,.nil,.nil,.nil,.nil,.nil,.nil,z0,.nil,z0,z0,.nil,.nil,.nil,.nil,.nil,z0,.nil,.nil,.nil,z1,z0,z0,z0,z0,.nil,.nil,.nil] [(35,7)]),u (.st l0 l1 36 [])] [] (.seq (.ite [m v7,u (.bin .neq l0 (.i 0))] [] 0 (q [h 36 v2,u (.ca N.eH 1 [] [.l 0]),u (.st v9 l0 36 [])] [] (.ite [m v7,u (.bin .eql l0 (.i 46))] [] 0 (.reg [m v6,u (.nc l0),f 0 l0,f 34 l0,g l0,f 34 v9,u (.st l0 l1 1 [])] []) .skip)) .skip) (q [f 35 v9,g l0,h 4 v3,f 0 v2,f 2 l0,g l0,m v7,m v6,u (.nc l0),f 36 l0,g l0,u (.bd [z0,z0,z0,z0,z0,z0,.nil] [(0,4,.l 8),(4,1,.l 5),(5,1,.l 4),(6,1,.l 0)]),u (.bs [.l 0] 7),u (.app l11 l0 true 7),f 35 v9,u (.st l0 l1 1 [])] [(1,13)] (q [h 36 v9,m v7,u (.st v4 l1 36 []),x 5 l1] [] .ret)))))))))),res:=[(4,some (36,true)),(5,none)]}
def iH:Fn:= { av:=0,vars:=[0],body:=(q [w 0 (.mv (.c (.nil)))] [] (q [u (.bsr [.c (.fn N.fx []),.c (.fn N.fy []),.c (.fn N.iI []),.c (.fn N.fA []),.c (.fn N.fB []),.c (.fn N.fC []),.c (.fn N.fD []),.c (.fn N.fE [])] 1),x 0 l0] [] .ret)),res:=[(0,none)]}
def kW:Fn:= { av:=1,vars:=[2],body:= .fail,res:=[(0,none)],prim:=[6,N.cN,N.cO,N.cP,N.cQ,N.cR,N.cT,N.cr,N.dz,N.ct,N.cu,N.cU,N.cV,N.cW]}
def fx:Fn:= { av:=1,vars:=[0,1,2],body:=(q [w 1 (.bx v0 36),x 2 (.b false)] [] (q [h 36 v1,f 23 v1,h 1 l0,u (.ca N.dy 0 [] [.l 2,.l 0]),x 2 l0] [] .ret)),res:=[(2,none)]}
def sJ:C:= (.its [u (.bin .lss v9 v8)] [] 0 .skip (.exit 0) (.seq (.blk 1 (q [m v9,a 3 v7 v9,h 3 l0,w 6 (.al [z0,z0,z0] []),x 5 l3,u (.st l1 l2 3 [])] [] (.ite [h 1 v3,m v5,f 0 v2,f 2 l0,g l0,u (.ca N.dv 0 [] [.l 4,.l 3,.l 0]),f 0 v6,g l0,u (.ca N.aK 0 [] [.l 2,.l 0]),u (.un .not l0)] [(7,0)] 0 (q [x 4 (.b false)] [] .ret) .skip))) (.reg [u (.bin .add v9 (.i 1)),x 9 l0] [])))
def tR:C:= .loop true [0,1,4,5,6] K.sJ
def dy:Fn:= { av:=2,vars:=[0,1,2,3,4,5,6,9,10,11],body:=(q [w 2 (.bx v0 36),w 3 (.bx v1 1),x 4 (.b false)] [] (.seq (q [f 0 v2,f 3 l0,w 7 (.ld l0 1 false),w 8 (.ln l0),x 9 (.i 0)] [] (.blk 0 K.tR)) (q [f 0 v3,g l0,u (.mf N.dk [.v 2]),u (.ca N.aB 0 [] [.l 1,.l 0]),x 4 l0] [] .ret))),res:=[(4,none)]}
def fy:Fn:= { av:=1,vars:=[0,1,2],body:=(q [w 1 (.bx v0 36),x 2 (.b false)] [] (q [f 33 v1,f 0 l0,g l0,u (.ln l0),u (.bin .eql l0 (.i 0)),m l0,y 0 false (.ld v1 36 true),y 1 false (.fa v1 33),y 2 false (.ld l0 1 true),y 3 false (.ca N.dy 0 [] [.l 2,.l 0]),u (.pk l4 (.b true) l0),x 2 l0] [] .ret)),res:=[(2,none)]}
def iI:Fn:= { av:=1,vars:=[0,1,2],body:=(q [w 1 (.bx v0 36),x 2 (.b false)] [] (.seq (.ite [f 29 v1,f 0 l0,g l0,u (.bin .neq l0 (.i 3)),m l0,y 0 true (.fa v1 29),y 1 true (.fa l0 0),i 2 true l0,y 3 true (.bin .neq l0 (.i 4)),u (.pk l4 l0 (.b false)),m l0,y 0 false (.fa v1 29),y 1 false (.fa l0 3),i 2 false l0,y 3 false (.fa v1 0),y 4 false (.fa l0 2),i 5 false l0,y 6 false (.bin .neq l3 l0),u (.pk l7 (.b true) l0)] [] 0 (q [x 2 (.b true)] [] .ret) .skip) (q [h 36 v1,u (.ca N.fF 0 [] [.l 0]),u (.ln l0),u (.bin .eql l0 (.i 0)),m l0,y 0 true (.fa v1 33),y 1 true (.ld l0 1 true),y 2 true (.fa v1 16),y 3 true (.fa l0 0),i 4 true l0,y 5 true (.ca N.iS 0 [] [.l 3,.l 0]),u (.pk l6 l0 (.b false)),x 2 l0] [] .ret))),res:=[(2,none)]}
def fA:Fn:= { av:=1,vars:=[0,1,2],body:=(q [w 1 (.bx v0 36),x 2 (.b false)] [] (q [f 26 v1,f 2 l0,g l0,u (.un .not l0),m l0,y 0 false (.ld v1 36 true),y 1 false (.ca N.gA 0 [] [.l 0]),y 2 false (.un .not l0),u (.pk l3 (.b true) l0),x 2 l0] [] .ret)),res:=[(2,none)]}
def gA:Fn:= { av:=1,vars:=[0,1,2],body:=(q [w 1 (.bx v0 36),x 2 (.b false)] [] (q [f 0 v1,f 3 l0,g l0,u (.mf N.ei [.v 1]),u (.ca N.ay 0 [] [.l 1,.l 0]),x 2 l0] [] .ret)),res:=[(2,none)]}
def fB:Fn:= { av:=1,vars:=[0,1,2,3],body:=(q [w 1 (.bx v0 36),x 2 (.b false)] [] (q [f 23 v1,h 1 l0,f 16 v1,f 0 l0,g l0,f 0 v1,f 2 l0,g l0,u (.ca N.ik 0 [] [.l 6,.l 3,.l 0]),w 3 (.al [z0,z0] []),u (.st l0 l1 2 [])] [] (q [h 36 v1,u (.ca N.fF 0 [] [.l 0]),u (.ln l0),f 0 v3,g l0,f 1 v3,g l0,u (.ca N.aS 0 [] [.l 4,.l 2,.l 0]),x 2 l0] [(4,0),(6,0)] .ret))),res:=[(2,none)]}
def fC:Fn:= { av:=1,vars:=[0,1,2],body:=(q [w 1 (.bx v0 36),x 2 (.b false)] [] (q [f 35 v1,g l0,u (.mf N.dJ [.v 1]),u (.ca N.aD 0 [] [.l 1,.l 0]),u (.un .not l0),x 2 l0] [] .ret)),res:=[(2,none)]}
def tT:C:= (.its [u (.bin .lss v11 v10)] [] 0 .skip (.exit 2) (.seq (.blk 3 (q [a 1 v9 v11,g l0,x 6 l0] [] (.ite [f 9 v1,h 2 l0,h 4 v4,m v6,u (.ca N.iF 0 [] [.l 2,.l 1,.l 0]),u (.un .not l0),m l0,y 0 true (.ld v1 36 true),e 1 true v6,y 2 true (.ca N.gE 0 [] [.l 1,.i 2,.l 0]),y 3 true (.un .not l0),u (.pk l4 l0 (.b false))] [] 0 (q [x 2 (.b false)] [] .ret) .skip))) (.reg [u (.bin .add v11 (.i 1)),x 11 l0] [])))
def vF:C:= .loop true [0,2,3,5,6] K.tT
def tU:C:= (.its [u (.bin .lss v8 v7)] [] 0 .skip (.exit 0) (.seq (.blk 1 (q [m v8,x 5 l0] [] (q [f 23 v1,h 1 l0,m v5,f 0 v1,f 2 l0,g l0,w 9 (.ca N.dv 0 [] [.l 4,.l 3,.l 0]),w 10 (.ln l0),x 11 (.i 0)] [] (.blk 2 K.vF)))) (.reg [u (.bin .add v8 (.i 1)),x 8 l0] [])))
def vG:C:= .loop true [0,2,3,5,6,9,10,11] K.tU
def fD:Fn:= { av:=1,vars:=[0,1,2,3,4,5,7,47,48,57,58,59],body:=(q [w 1 (.bx v0 36),x 2 (.b false)] [] (q [f 35 v1,g l0,u (.ln l0),x 3 l0] [] (.seq (.ite [m v3,u (.bin .eql l0 (.i 0)),m l0,y 0 false (.fa v1 35),i 1 false l0,e 2 false v3,y 3 false (.bin .sub l0 (.i 1)),y 4 false (.ia l2 l0 7),y 5 false (.fa l0 0),y 6 false (.fa l0 0),i 7 false l0,y 8 false (.bin .neq l0 (.i 12)),u (.pk l9 (.b true) l0),m l0,y 0 false (.fa v1 35),i 1 false l0,e 2 false v3,y 3 false (.bin .sub l0 (.i 1)),y 4 false (.ia l2 l0 7),y 5 false (.fa l0 5),i 6 false l0,y 7 false (.bin .neq l0 (.i 0)),u (.pk l8 (.b true) l0),m l0,y 0 false (.fa v1 24),y 1 false (.fa l0 1),i 2 false l0,y 3 false (.ln l0),y 4 false (.bin .gtr l0 (.i 0)),u (.pk l5 (.b true) l0)] [] 0 (q [x 2 (.b true)] [] .ret) .skip) (q [f 12 v1,h 4 l0,w 4 (.al [.nil,.nil,.nil,z0] []),u (.st l0 l1 4 [])] [] (q [f 1 v4,u (.st l0 (.c (.nil)) 1 [])] [] (.seq (q [f 0 v1,f 3 l0,g l0,w 7 (.ln l0),x 8 (.i 0)] [] (.blk 0 K.vG)) (q [x 2 (.b true)] [] .ret))))))),res:=[(2,none)]}
def fE:Fn:= { av:=1,vars:=[0,1,2],body:=(q [w 1 (.bx v0 36),x 2 (.b false)] [] (q [f 34 v1,g l0,u (.ca N.gB 0 [] [.l 0]),m l0,y 0 true (.fa v1 26),y 1 true (.ld l0 3 true),y 2 true (.ca N.ew 0 [] [.l 0]),u (.pk l3 l0 (.b false)),m l0,y 0 true (.fa v1 16),y 1 true (.ld l0 3 true),y 2 true (.fa v1 29),y 3 true (.ld l0 4 true),y 4 true (.ca N.dD 0 [] [.l 2,.l 0]),u (.pk l5 l0 (.b false)),x 2 l0] [] .ret)),res:=[(2,none)]}
def vH:C:= (.its [u (.bin .lss v6 v5)] [] 0 .skip (.exit 0) (.seq (.blk 1 (q [m v6,a 9 v4 v6,h 9 l0,w 3 (.al [z0,z0,z0,z0,z0,z1,z1,z0,z0] []),x 2 l3,u (.st l1 l2 9 [])] [] (.ite [h 9 v3,u (.ca N.gC 0 [] [.l 0]),u (.un .not l0),m l0,e 0 false v2,y 1 false (.bin .gtr l0 (.i 0)),e 2 false l0,e 0 true v0,e 1 true v2,y 2 true (.bin .sub l0 (.i 1)),y 3 true (.ia l2 l0 9),y 4 true (.ld l0 9 true),y 5 true (.fa v3 0),i 6 true l0,y 7 true (.fa v3 1),i 8 true l0,y 9 true (.bd [z0,z0] [(0,1,.l 2),(1,1,.l 0)]),y 10 true (.ca N.ek 0 [] [.l 5,.l 0]),y 11 true (.bin .geq l0 (.i 0)),y 15 false (.pk (.l 12) l0 (.b false)),u (.pk (.l 16) (.b true) l0)] [] 0 (q [x 1 (.b false)] [] .ret) .skip))) (.reg [u (.bin .add v6 (.i 1)),x 6 l0] [])))
def xF:C:= .loop true [1,2,3] K.vH
def gB:Fn:= { av:=1,vars:=[0,2,3,4,8,9,10],body:=(q [x 1 (.b false)] [] (.seq (.ite [m v0,u (.ln l0),u (.bin .gtr l0 (.i 64))] [] 0 (q [x 1 (.b false)] [] .ret) .skip) (.seq (q [x 4 v0,w 5 (.ln l0),x 6 (.i 0)] [] (.blk 0 K.xF)) (q [x 1 (.b true)] [] .ret)))),res:=[(1,none)]}
def cr:Fn:= { av:=2,vars:=[0,1,2,3,4],body:=(q [w 2 (.bx v0 1),w 3 (.bx v1 4),x 4 (.i 0)] [] (.seq (.ite [f 1 v3,g l0,g v2,u (.nc l0),f 0 l0,f 26 l0,f 0 l0,g l0,u (.ln l0),u (.bin .sub l0 (.i 1)),u (.ca N.aS 0 [] [.l 8,.i 0,.l 0]),u (.un .not l0)] [] 0 (q [x 4 (.i 47)] [] .ret) .skip) (.seq (.ite [g v2,u (.nc l0),f 0 l0,f 0 l0,f 3 l0,g l0,u (.mf N.cJ [.v 2,.v 3]),u (.ca N.ay 0 [] [.l 1,.l 0])] [] 0 (q [x 4 (.i 49)] [] .ret) .skip) (.seq (q [g v2,g v2,u (.nc l0),f 0 l0,f 26 l0,h 3 l0,f 1 v3,g l0,u (.ca N.kP 0 [] [.l 2,.l 0]),m l0,u (.ex l0 0),u (.ex l1 1),u (.nc l11),f 0 l0,f 26 l0,u (.st l0 l4 3 []),x 4 l4] [(0,9)] (.ite [m v4,u (.bin .neq l0 (.i 0))] [] 0 (q [m v4,x 4 l0] [] .ret) .skip)) (.seq (q [g v2,g v2,u (.nc l0),f 0 l0,f 26 l0,h 3 l0,f 1 v3,g l0,u (.ca N.ir 0 [] [.l 2,.l 0]),m l0,u (.ex l0 0),u (.ex l1 1),u (.nc l11),f 0 l0,f 26 l0,u (.st l0 l4 3 []),x 4 l4] [(0,9)] (.ite [m v4,u (.bin .neq l0 (.i 0))] [] 0 (q [m v4,x 4 l0] [] .ret) .skip)) (.seq (.ite [g v2,u (.nc l0),f 0 l0,f 26 l0,f 1 l0,g l0,u (.ca N.ai 0 [] [.l 0,.c (.fn N.cK [])])] [] 0 (q [x 4 (.i 0)] [] .ret) .skip) (.seq (q [g v2,g v2,u (.nc l0),f 0 l0,f 26 l0,h 3 l0,u (.ca N.kQ 0 [] [.l 0]),m l0,u (.ex l0 0),u (.ex l1 1),u (.nc l9),f 0 l0,f 26 l0,u (.st l0 l4 3 []),x 4 l4] [(0,7)] (.ite [m v4,u (.bin .neq l0 (.i 0))] [] 0 (q [m v4,x 4 l0] [] .ret) .skip)) (q [g v2,g v2,u (.nc l0),f 0 l0,f 9 l0,h 2 l0,g v2,u (.nc l0),f 0 l0,f 23 l0,h 1 l0,g v2,u (.nc l0),f 0 l0,f 26 l0,f 0 l0,g l0,g v2,u (.ca N.bY 0 [] [.l 0]),u (.ca N.kT 0 [] [.l 13,.l 8,.l 2,.l 0]),m l0,u (.ex l0 0),u (.ex l1 1),u (.nc (.l 22)),f 0 l0,f 33 l0,u (.st l0 l4 1 []),x 4 l4] [(0,19),(0,20),(1,19),(5,19),(6,19),(10,19),(11,19),(16,19)] (q [m v4,x 4 l0] [] .ret))))))))),res:=[(4,none)]}
end Go.Ev.K
namespace Go.Ev
class jf [Lib]:Prop where
 ve:Lib.fs N.fY=some K.fY
 zT:Lib.fs N.mB=some K.mB
 sK:Lib.fs N.iG=some K.iG
 xG:Lib.fs N.kV=some K.kV
 sL:Lib.fs N.iH=some K.iH
 xH:Lib.fs N.kW=some K.kW
 pw:Lib.fs N.fx=some K.fx
 oq:Lib.fs N.dy=some K.dy
 px:Lib.fs N.fy=some K.fy
 sM:Lib.fs N.iI=some K.iI
 pz:Lib.fs N.fA=some K.fA
 qB:Lib.fs N.gA=some K.gA
 pA:Lib.fs N.fB=some K.fB
 pB:Lib.fs N.fC=some K.fC
 pC:Lib.fs N.fD=some K.fD
 pD:Lib.fs N.fE=some K.fE
 qC:Lib.fs N.gB=some K.gB
 ng:Lib.fs N.cr=some K.cr
namespace K
variable [Lib] [jf]
theorem ve:Lib.fs N.fY=some K.fY:=jf.ve
theorem zT:Lib.fs N.mB=some K.mB:=jf.zT
theorem sK:Lib.fs N.iG=some K.iG:=jf.sK
theorem xG:Lib.fs N.kV=some K.kV:=jf.xG
theorem sL:Lib.fs N.iH=some K.iH:=jf.sL
theorem xH:Lib.fs N.kW=some K.kW:=jf.xH
theorem pw:Lib.fs N.fx=some K.fx:=jf.pw
theorem oq:Lib.fs N.dy=some K.dy:=jf.oq
theorem px:Lib.fs N.fy=some K.fy:=jf.px
theorem sM:Lib.fs N.iI=some K.iI:=jf.sM
theorem pz:Lib.fs N.fA=some K.fA:=jf.pz
theorem qB:Lib.fs N.gA=some K.gA:=jf.qB
theorem pA:Lib.fs N.fB=some K.fB:=jf.pA
theorem pB:Lib.fs N.fC=some K.fC:=jf.pB
theorem pC:Lib.fs N.fD=some K.fD:=jf.pC
theorem pD:Lib.fs N.fE=some K.fE:=jf.pD
theorem qC:Lib.fs N.gB=some K.gB:=jf.qC
theorem ng:Lib.fs N.cr=some K.cr:=jf.ng
end K
end Go.Ev
namespace Go.Ev.K
open Go.Ev
def dz:Fn:= { av:=2,vars:=[0,1,3,4],body:=(q [w 2 (.bx v1 4),x 3 (.i 0)] [] (q [m v0,m v0,u (.nc l0),f 0 l0,f 16 l0,h 3 l0,m v0,u (.nc l0),f 0 l0,f 29 l0,h 4 l0,m v0,u (.nc l0),f 0 l0,f 26 l0,h 3 l0,m v0,u (.nc l0),f 0 l0,f 33 l0,h 1 l0,f 1 v2,g l0,m v0,u (.ca N.bY 0 [] [.l 0]),u (.ca N.jC 0 [] [.l 19,.l 14,.l 9,.l 4,.l 2,.l 0]),m l0,u (.ex l0 0),u (.ex l1 1),u (.nc (.l 28)),f 0 l0,f 29 l0,u (.st l0 l4 4 []),x 3 l4] [(5,25),(10,25),(15,25),(20,25),(22,25)] (q [m v3,x 3 l0] [] .ret))),res:=[(3,none)]}
def ct:Fn:= { av:=2,vars:=[0,1,3,4],body:=(q [w 2 (.bx v1 4),x 3 (.i 0)] [] (q [m v0,m v0,u (.nc l0),f 0 l0,f 16 l0,h 3 l0,m v0,u (.nc l0),f 0 l0,f 29 l0,h 4 l0,m v0,u (.nc l0),f 0 l0,f 26 l0,h 3 l0,m v0,u (.nc l0),f 0 l0,f 33 l0,h 1 l0,f 1 v2,g l0,m v0,u (.ca N.bY 0 [] [.l 0]),u (.ca N.gg 0 [] [.l 19,.l 14,.l 9,.l 4,.l 2,.l 0]),m l0,u (.ex l0 0),u (.ex l1 1),u (.nc (.l 28)),f 0 l0,f 29 l0,u (.st l0 l4 4 []),x 3 l4] [(5,25),(10,25),(15,25),(20,25),(22,25)] (q [m v3,x 3 l0] [] .ret))),res:=[(3,none)]}
def cu:Fn:= { av:=2,vars:=[0,1,3,4],body:=(q [w 2 (.bx v1 4),x 3 (.i 0)] [] (q [m v0,m v0,u (.nc l0),f 0 l0,f 16 l0,h 3 l0,m v0,u (.nc l0),f 0 l0,f 29 l0,h 4 l0,m v0,u (.nc l0),f 0 l0,f 26 l0,h 3 l0,m v0,u (.nc l0),f 0 l0,f 33 l0,h 1 l0,m v0,u (.ca N.bY 0 [] [.l 0]),f 2 v2,g l0,u (.bin .neq l0 (.i 0)),u (.ca N.ig 0 [] [.l 20,.l 15,.l 10,.l 5,.l 3,.l 0]),m l0,u (.ex l0 0),u (.ex l1 1),u (.nc (.l 29)),f 0 l0,f 29 l0,u (.st l0 l4 4 []),x 3 l4] [(5,23),(10,23),(15,23),(20,23),(24,0)] (q [m v3,x 3 l0] [] .ret))),res:=[(3,none)]}
def dk:Fn:= { av:=2,vars:=[0,1,2,3],body:=(q [w 2 (.bx v0 2),x 3 (.b false)] [] (q [f 0 v2,g l0,f 0 v1,f 4 l0,g l0,u (.ca N.bw 0 [] [.l 3,.l 0]),x 3 l0] [] .ret)),res:=[(3,none)]}
def fF:Fn:= { av:=1,vars:=[0,1,2],body:=(q [w 1 (.bx v0 36),w 2 (.mv (.c (.nil)))] [] (q [f 0 v1,f 3 l0,g l0,u (.ln l0),u (.mf N.en [.v 1]),u (.ca N.dr 0 [] [.l 1,.l 0]),x 2 l0] [] .ret)),res:=[(2,none)]}
def ei:Fn:= { av:=2,vars:=[0,1,2,3],body:=(q [w 2 (.bx v0 3),x 3 (.b false)] [] (q [f 1 v2,g l0,u (.bin .geq l0 (.i 0)),m l0,y 0 true (.fa v1 26),y 1 true (.fa l0 0),i 2 true l0,y 3 true (.fa v2 1),i 4 true l0,y 5 true (.ca N.aK 0 [] [.l 2,.l 0]),u (.pk l6 l0 (.b false)),x 3 l0] [] .ret)),res:=[(3,none)]}
def aD:Fn:= { av:=2,vars:=[0,1,4],body:=(q [x 2 (.b false)] [] (q [m v0,m v1,u (.ca N.aG 0 [] [.l 1,.l 0]),u (.bin .geq l0 (.i 0)),x 2 l0] [] .ret)),res:=[(2,none)]}
def dJ:Fn:= { av:=2,vars:=[0,1,2,3],body:=(q [w 2 (.bx v0 7),x 3 (.b false)] [] (q [f 0 v2,f 0 l0,g l0,u (.bin .eql l0 (.i 6)),m l0,y 0 true (.fa v2 5),i 1 true l0,y 2 true (.bin .eql l0 (.i 0)),u (.pk l3 l0 (.b false)),m l0,y 0 true (.ld v1 36 true),y 1 true (.fa v2 0),y 2 true (.fa l0 1),i 3 true l0,y 4 true (.ca N.gE 0 [] [.l 3,.i 1,.l 0]),y 5 true (.un .not l0),u (.pk l6 l0 (.b false)),x 3 l0] [] .ret)),res:=[(3,none)]}
def gE:Fn:= { av:=3,vars:=[0,1,2,3,4,5,6],body:= .fail,res:=[(6,none)]}
def gC:Fn:= { av:=1,vars:=[0,1,2,4,13,14],body:= .fail,res:=[(2,none)]}
def ek:Fn:= { av:=2,vars:=[0,1,2,3,4],body:= .fail,res:=[(4,none)]}
def cJ:Fn:= { av:=3,vars:=[0,1,2,3,4],body:=(q [w 3 (.bx v0 3),x 4 (.b false)] [] (q [f 1 v3,g l0,g v1,u (.nc l0),f 0 l0,f 26 l0,f 0 l0,g l0,f 1 v2,g l0,a 1 l2 l0,g l0,u (.bin .eql l10 l0),x 4 l0] [] .ret)),res:=[(4,none)]}
def cK:Fn:= { av:=1,vars:=[0,2],body:=(q [x 1 (.b false)] [] (q [m v0,u (.bin .neq l0 (.i 2)),x 1 l0] [] .ret)),res:=[(1,none)]}
def en:Fn:= { av:=2,vars:=[0,1,3],body:=(q [x 2 (.b false)] [] (q [f 16 v1,f 0 l0,g l0,f 0 v1,f 3 l0,g l0,m v0,a 3 l1 l0,f 0 l0,g l0,u (.ca N.aK 0 [] [.l 7,.l 0]),x 2 l0] [] .ret)),res:=[(2,none)]}
def fH:C:= (.its [u (.bin .lss v5 v4)] [] 0 .skip (.exit 0) (.seq (.blk 1 (q [m v5,x 3 l0] [] (.ite [m v1,m v0,m v3,a 7 l1 l0,h 7 l0,u (.cw l4 0 [] [.l 0])] [] 0 (q [m v3,x 2 l0] [] .ret) .skip))) (.reg [u (.bin .add v5 (.i 1)),x 5 l0] [])))
def fM:C:= .loop true [2,3] K.fH
def aG:Fn:= { av:=2,vars:=[0,1,4,5,7,8],body:=(q [x 2 (.i 0)] [] (.seq (q [m v0,w 4 (.ln l0),x 5 (.i 0)] [] (.blk 0 K.fM)) (q [w 2 (.mv (.i (-1)))] [] .ret))),res:=[(2,none)]}
end Go.Ev.K
namespace Go.Ev
class kc [Lib]:Prop where
 pE:Lib.fs N.dz=some K.dz
 nh:Lib.fs N.ct=some K.ct
 ni:Lib.fs N.cu=some K.cu
 mE:Lib.fs N.dk=some K.dk
 qD:Lib.fs N.fF=some K.fF
 ot:Lib.fs N.ei=some K.ei
 cb:Lib.fs N.aD=some K.aD
 nj:Lib.fs N.dJ=some K.dJ
 sN:Lib.fs N.gE=some K.gE
 qE:Lib.fs N.gC=some K.gC
 ou:Lib.fs N.ek=some K.ek
 lY:Lib.fs N.cJ=some K.cJ
 lZ:Lib.fs N.cK=some K.cK
 ov:Lib.fs N.en=some K.en
 cE:Lib.fs N.aG=some K.aG
namespace K
variable [Lib] [kc]
theorem pE:Lib.fs N.dz=some K.dz:=kc.pE
theorem nh:Lib.fs N.ct=some K.ct:=kc.nh
theorem ni:Lib.fs N.cu=some K.cu:=kc.ni
theorem mE:Lib.fs N.dk=some K.dk:=kc.mE
theorem qD:Lib.fs N.fF=some K.fF:=kc.qD
theorem ot:Lib.fs N.ei=some K.ei:=kc.ot
theorem cb:Lib.fs N.aD=some K.aD:=kc.cb
theorem nj:Lib.fs N.dJ=some K.dJ:=kc.nj
theorem sN:Lib.fs N.gE=some K.gE:=kc.sN
theorem qE:Lib.fs N.gC=some K.gC:=kc.qE
theorem ou:Lib.fs N.ek=some K.ek:=kc.ou
theorem lY:Lib.fs N.cJ=some K.cJ:=kc.lY
theorem lZ:Lib.fs N.cK=some K.cK:=kc.lZ
theorem ov:Lib.fs N.en=some K.en:=kc.ov
theorem cE:Lib.fs N.aG=some K.aG:=kc.cE
end K
end Go.Ev
namespace Go.Ev
open Go
variable [Lib] [dt] [dm] [kg] [jj] [mh] [gY] [i5] [lJ] [jV] [gJ] [jd] [jf] [kc]
instance : Dat Bool := ⟨false⟩
theorem vf{l:List Int}{k:Nat}(h:k<l.length):(l.map (T.int .i64))[k]?=some (.int .i64 (nth l k)):=i4 _ h
theorem JD{l:List Bool}{k:Nat}(h:k<l.length):(l.map T.bool)[k]?=some (.bool (nth l k)):=i4 _ h
abbrev oN(l:List Bool):Obj:= .arr 1 false 0 ((l.map T.bool).map .t)
end Go.Ev
namespace Go.Ev
open Go
variable [Lib] [dt] [dm] [kg] [jj] [mh] [gY] [i5] [lJ] [jV] [gJ] [jd] [jf] [kc] [jr]
theorem RV(fo:List Bool){k:Nat}(hk:k<fo.length):dn 0 N.bg [I k,.bp 0 0] [.box [.ref 1 0 fo.length],oN fo]=some (B (nth fo k),[.box [.ref 1 0 fo.length],oN fo]):=by
 refine bG K.iL rfl ?_
 have ex:=JD hk
 simp only[oN]
 simp(disch:=omega)only[go_sem,K.bg,↓reduceIte,ex,List.length_map,reduceAdd,reduceSub]
theorem Ea(fo:List Bool)(hn:fo.length≤1000):dn 0 N.dr [I fo.length,.fn N.bg [.bp 0 0]] [.box [.ref 1 0 fo.length],oN fo]=some (.t (tL (j4 fo.length fun k=>nth fo k)),[.box [.ref 1 0 fo.length],oN fo]):=by
 refine bG K.nO rfl ?_
 have hlen:=fun k=>zL k fun k=>nth fo k
 have lp:exS dn K.qj ⟨[I fo.length,.fn N.bg [.bp 0 0],.nil,.ref 2 0 0,.und,I fo.length,I 0],[.box [.ref 1 0 fo.length],oN fo,.arr 1 false 0 []]⟩=
  some (.exit 0,⟨[.und,.fn N.bg [.bp 0 0],.und,.ref 2 0 (j4 fo.length fun k=>nth fo k).length,.und,I fo.length,I fo.length],[.box [.ref 1 0 fo.length],oN fo,xr (j4 fo.length fun k=>nth fo k)]⟩):=by
  refine lj (fun j=>⟨[.und,.fn N.bg [.bp 0 0],.und,.ref 2 0 (j4 j fun k=>nth fo k).length,.und,I fo.length,I j],[.box [.ref 1 0 fo.length],oN fo,xr (j4 j fun k=>nth fo k)]⟩) fo.length rfl ?_ ?_ (by simp)
  · intro j hj
    have hc:=RV fo hj
    have:=hlen j
    have ws:=DM j fun k=>nth fo k
    simp only[oN,xr]at*
    by_cases hp:nth fo j=true
    · rw[if_pos hp]at ws
      rw[ws]
      rw[hp]at hc
      generalize j4 j (fun k=>nth fo k)=r at*
      clear ws
      simp(disch:=omega)only[go_sem,K.jZ,↓reduceIte,hc,aLv,List.length_singleton,List.map_append,List.map_cons,List.map_nil,reduceAdd,reduceSub]
    · rw[if_neg hp]at ws
      rw[ws]
      have hp:nth fo j=false:=by simpa using hp
      rw[hp]at hc
      generalize j4 j (fun k=>nth fo k)=r at*
      clear ws
      simp(disch:=omega)only[go_sem,K.jZ,↓reduceIte,hc,reduceAdd,reduceSub]
  · simp only[oN,xr]
    simp(disch:=omega)only[go_sem,K.jZ,↓reduceIte,reduceAdd,reduceSub]
 simp only[oN,xr]at*
 simp(disch:=omega)only[go_sem,K.dr,↓reduceIte,lp,reduceAdd,reduceSub]
structure Bv(f:Nat→Nat→Bool)(n r:Nat)(fo:List Bool)(qs:List Int)(b j:Nat):Prop where
 len:fo.length=n
 snd:∀a,a<n→nth fo a=true→TC f n a r
 que:∀x∈qs,∃k:Nat,x=k∧k<n∧(k=r∨TC f n k r)
 clo:∀a c,a<n→c<n→(c=r∨nth fo c=true)→f a c=true→nth fo a=true∨(c:Int)∈qs∨(c=b∧j≤a)
 bok:b<n∧(b=r∨TC f n b r)
def AP(fo:List Bool)(qs:List Int):Nat:=qs.length+2*fo.count false
theorem Bv.skip{f:Nat→Nat→Bool}{n r:Nat}{fo:List Bool}{qs:List Int}{b j:Nat}(h:Bv f n r fo qs b j)(hj:j<n)(hc:¬(nth fo j=false∧f j b=true)):Bv f n r fo qs b (j+1):=by
 refine⟨h.len,h.snd,h.que,fun a c ha hcn hc1 hf=>?_,h.bok⟩
 rcases h.clo a c ha hcn hc1 hf with e | e | ⟨rfl,e⟩
 · exact .inl e
 · exact .inr (.inl e)
 · by_cases k:j=a
   · subst k
     left
     by_cases q:nth fo j=true
     · exact q
     · exact absurd ⟨by simpa using q,hf⟩ hc
   · exact .inr (.inr ⟨rfl,by omega⟩)
theorem Bv.take{f:Nat→Nat→Bool}{n r:Nat}{fo:List Bool}{qs:List Int}{b j:Nat}(h:Bv f n r fo qs b j)(hj:j<n)(h1:nth fo j=false)(h2:f j b=true):
 Bv f n r (fo.set j true) (qs++[(j:Int)]) b (j+1)∧AP (fo.set j true) (qs++[(j:Int)])+1=AP fo qs:=by
 have tj:TC f n j r:=by
  rcases h.bok with⟨hb,rfl | t⟩
  · exact .one j b hj hb h2
  · exact .more j b r hj hb h2 t
 have ns:∀a,a<n→nth (fo.set j true) a=if j=a then true else nth fo a:=fun a ha=>sG _ _ _ _ (by rw[h.len];exact ha)
 refine⟨⟨by simp[h.len],fun a ha hx=>?_,fun x hx=>?_,fun a c ha hcn hc1 hf=>?_,h.bok⟩,?_⟩
 · rw[ns a ha]at hx
   split at hx
   · rename_i e;subst e;exact tj
   · exact h.snd a ha hx
 · rcases List.mem_append.1 hx with e | e
   · exact h.que x e
   · rw[List.mem_singleton]at e
     exact⟨j,e,hj,.inr tj⟩
 · rw[ns a ha]
   by_cases k:j=a
   · rw[if_pos k];exact .inl rfl
   · rw[if_neg k]
     have key:(c=r∨nth fo c=true)→nth fo a=true∨(c:Int)∈qs++[(j:Int)]∨(c=b∧j+1≤a):=fun hx=>by
      rcases h.clo a c ha hcn hx hf with e | e | ⟨rfl,e⟩
      · exact .inl e
      · exact .inr (.inl (List.mem_append_left _ e))
      · exact .inr (.inr ⟨rfl,by omega⟩)
     rcases hc1 with e | e
     · exact key (.inl e)
     · rw[ns c hcn]at e
       split at e
       · rename_i e1
         exact .inr (.inl (by rw[← e1];simp))
       · exact key (.inr e)
 · unfold AP
   have hl:j<fo.length:=by rw[h.len];exact hj
   have g:fo[j]=false:=by
    rw[← h1]
    exact(oe (aLc hl)).symm
   have c1:0<fo.count false:=by
    rw[List.count_pos_iff,←g]
    exact List.getElem_mem hl
   rw[List.count_set hl,aLv,List.length_singleton,g]
   simp
   omega
theorem Bv.pop{f:Nat→Nat→Bool}{n r:Nat}{fo:List Bool}{x:Int}{qs:List Int}{b:Nat}(h:Bv f n r fo (x::qs) b n):∃k:Nat,x=k∧Bv f n r fo qs k 0:=by
 obtain⟨k,e,hk,ht⟩:=h.que x (by simp)
 refine⟨k,e,⟨h.len,h.snd,fun y hy=>h.que y (by simp[hy]),fun a c ha hcn hc1 hf=>?_,hk,ht⟩⟩
 rcases h.clo a c ha hcn hc1 hf with g | g | ⟨_,g⟩
 · exact .inl g
 · rcases List.mem_cons.1 g with q | q
   · exact .inr (.inr ⟨by omega,Nat.zero_le _⟩)
   · exact .inr (.inl q)
 · omega
theorem Bv.fin{f:Nat→Nat→Bool}{n r:Nat}{fo:List Bool}{b:Nat}(hr:r<n)(h:Bv f n r fo [] b n):j4 n (fun k=>nth fo k)=u9 f n r:=by
 have up:∀a c,TC f n a c→(c=r∨nth fo c=true)→nth fo a=true:=by
  intro a c t
  induction t with
  | one a c ha hc hf=>
    intro hx
    rcases h.clo a c ha hc hx hf with e | e | ⟨_,e⟩
    · exact e
    · simp at e
    · omega
  | more a c d ha hc hf t ih=>
    intro hx
    rcases h.clo a c ha hc (.inr (ih hx)) hf with e | e | ⟨_,e⟩
    · exact e
    · simp at e
    · omega
 unfold u9 j4
 congr 1
 refine List.filter_congr fun a ha=>?_
 have ha:=aLu.1 ha
 rw[Bool.eq_iff_iff,AN]
 exact⟨fun e=>h.snd a ha e,fun t=>up a r t (.inl rfl)⟩
theorem Bv.start{f:Nat→Nat→Bool}{n r:Nat}(hr:r<n):Bv f n r (List.replicate n false) [(r:Int)] r n:=by
 refine⟨by simp,fun a ha h=>(by rw[wy ha]at h;cases h),fun x hx=>?_,fun a c ha hc hx hf=>?_,hr,.inl rfl⟩
 · rw[List.mem_singleton]at hx
   exact⟨r,hx,hr,.inl rfl⟩
 · rcases hx with e | e
   · subst e;exact .inr (.inl (by simp))
   · rw[wy hc]at e;cases e
theorem RW{gc:Bool}{dead:List Nat}{c:C}{vs:List D}{H:aj}(P:Nat→St→Prop)(n:Nat)(Q:Ex×St→Prop)(h0:P n ⟨jO dead vs,H⟩)
 (hs:∀n st,P n st→(∃st' m,m<n∧lN gc dead st.H.length (exS dn c st)=some st'∧P m st')∨∃q,exS dn c st=some q∧q.1≠ .normal∧Q q):∃q,exS dn (.loop gc dead c) ⟨vs,H⟩=some q∧Q q:=by
 have key:∀(n:Nat) (st:St),P n st→∃q,oI gc dead (exS dn c) st=some q∧Q q:=by
  intro n
  induction n using Nat.strongRecOn with
  | ind n ih=>
    intro st hp
    rcases hs n st hp with⟨st',m,hm,h1,h2⟩ | ⟨q,h1,h2,h3⟩
    · obtain⟨q,h3,h4⟩:=ih m hm st' h2
      exact⟨q,tE h1 h3,h4⟩
    · exact⟨q,jA h1 h2,h3⟩
 exact key n _ h0
abbrev HE(m:fJ)(fo:List Bool)(n ep:Nat):aj:=[.box (aU m),oN fo,.box [.ref 1 0 n],.own ep]
section
variable {m : fJ} (hm : m.ok) {fl : List Spn} (hf : fl.length = m.roads.length) {r : Nat} (hr : r < m.roads.length)
include hm hf hr
theorem Yk{b:Nat}{fo:List Bool}{qs:List Int}{ep:Nat}(h:Bv (gK m fl) m.roads.length r fo qs b 0)(hB:AP fo qs≤1000):∀z0 z2 z4 z8:D,∃q,
 exS dn K.lD ⟨[z0,.t (tS fl),z2,.bp 0 0,z4,.bp 2 0,.q 3 ep (qs.map (T.int .i64)),I b,z8,I m.roads.length,I 0],HE m fo m.roads.length ep⟩=some q∧
  ∃fo' qs' ep',Bv (gK m fl) m.roads.length r fo' qs' b m.roads.length∧AP fo' qs'≤AP fo qs∧
   q=(.exit 2,⟨[.und,.t (tS fl),.und,.bp 0 0,.und,.bp 2 0,.q 3 ep' (qs'.map (T.int .i64)),I b,.und,I m.roads.length,I m.roads.length],HE m fo' m.roads.length ep'⟩):=by
 intro z0 z2 z4 z8
 have nr:=hm.nr
 refine LN (fun j st=>∃fo' qs' ep',Bv (gK m fl) m.roads.length r fo' qs' b j∧AP fo' qs'≤AP fo qs∧
  st=⟨[.und,.t (tS fl),.und,.bp 0 0,.und,.bp 2 0,.q 3 ep' (qs'.map (T.int .i64)),I b,.und,I m.roads.length,I j],HE m fo' m.roads.length ep'⟩) m.roads.length _ ⟨fo,qs,ep,h,aLs _,rfl⟩ ?_ ?_
 · rintro j st hj ⟨fo',qs',ep',hi,hM,rfl⟩
   have fe:=D8 hm hf hj hi.bok.1
   have ex:=JD (l:=fo') (k:=j) (by rw[hi.len];exact hj)
   have fl':=hi.len
   have bound:qs'.length≤1000:=by
    have:qs'.length≤AP fo' qs':=by unfold AP;omega
    omega
   by_cases c:nth fo' j=false∧gK m fl j b=true
   · obtain⟨c1,c2⟩:=c
     obtain⟨k1,k2⟩:=hi.take hj c1 c2
     refine⟨_,?_,fo'.set j true,qs'++[(j:Int)],ep'+1,k1,by omega,rfl⟩
     rw[c2]at fe
     clear k1 k2 hi hM
     obtain⟨aP,roads⟩:=m
     simp only[HE,oN,aU,List.map_append,List.map_cons,List.map_nil]at*
     simp(disch:=omega)only[go_sem,K.dM,↓reduceIte,ex,fe,fl',c1,Bool.not_false,List.length_map,reduceAdd,reduceSub]
   · refine⟨_,?_,fo',qs',ep',hi.skip hj c,hM,rfl⟩
     generalize gK m fl j b=fb at*
     clear hi hM
     obtain⟨aP,roads⟩:=m
     simp only[HE,oN,aU]at*
     cases hc:nth fo' j
     · rw[hc]at c
       have:fb=false:=by cases fb with
        | false=>rfl
        | true=>exact absurd ⟨rfl,rfl⟩ c
       subst this
       simp(disch:=omega)only[go_sem,K.dM,↓reduceIte,ex,fe,fl',hc,Bool.not_false,List.length_map,reduceAdd,reduceSub]
     · simp(disch:=omega)only[go_sem,K.dM,↓reduceIte,ex,fl',hc,Bool.not_true,List.length_map,reduceAdd,reduceSub]
 · rintro st ⟨fo',qs',ep',hi,hM,rfl⟩
   refine⟨_,?_,?_,fo',qs',ep',hi,hM,rfl⟩
   · obtain⟨aP,roads⟩:=m
     simp only[HE,oN,aU]
     simp(disch:=omega)only[go_sem,K.dM,↓reduceIte,reduceAdd,reduceSub]
   · simp
theorem RX:∀z0 z2 z4 z7 z8 z9 z10:D,∃q,
 exS dn K.lE ⟨[z0,.t (tS fl),z2,.bp 0 0,z4,.bp 2 0,.q 3 0 [.int .i64 r],z7,z8,z9,z10],HE m (List.replicate m.roads.length false) m.roads.length 0⟩=some q∧
  ∃fo ep,fo.length=m.roads.length∧j4 m.roads.length (fun k=>nth fo k)=u9 (gK m fl) m.roads.length r∧
   q=(.exit 0,⟨[.und,.t (tS fl),.und,.bp 0 0,.und,.bp 2 0,.q 3 ep [],.und,.und,.und,.und],HE m fo m.roads.length ep⟩):=by
 intro z0 z2 z4 z7 z8 z9 z10
 have nr:=hm.nr
 refine RW (fun k st=>∃fo qs ep b,Bv (gK m fl) m.roads.length r fo qs b m.roads.length∧AP fo qs=k∧k≤1000∧
  st=⟨[.und,.t (tS fl),.und,.bp 0 0,.und,.bp 2 0,.q 3 ep (qs.map (T.int .i64)),.und,.und,.und,.und],HE m fo m.roads.length ep⟩) (AP (List.replicate m.roads.length false) [(r:Int)]) _
  ⟨_,_,0,r,Bv.start hr,rfl,by simp[AP];omega,rfl⟩ ?_
 rintro k st ⟨fo,qs,ep,b,hi,hM,hB,rfl⟩
 cases qs with
 | nil=>
   right
   refine⟨_,?_,?_,fo,ep,hi.len,hi.fin hr,rfl⟩
   · clear hi hM
     obtain⟨aP,roads⟩:=m
     simp only[HE,oN,aU,List.map_nil]
     simp(disch:=omega)only[go_sem,K.iJ,↓reduceIte,List.length_nil,reduceAdd,reduceSub]
   · simp
 | cons x qs=>
   left
   obtain⟨c,rfl,hp⟩:=hi.pop
   have m1:AP fo ((c:Int)::qs)=AP fo qs+1:=by unfold AP;rw[List.length_cons];omega
   obtain⟨q,hq,fo',qs',ep',h1,h2,rfl⟩:=Yk hm hf hr hp (ep:=ep) (by omega) .und .und .und .und
   refine⟨_,AP fo' qs',by omega,?_,fo',qs',ep',c,h1,rfl,by omega,rfl⟩
   have ql:qs.length≤1000:=by
    have:qs.length≤AP fo qs:=by unfold AP;omega
    omega
   clear h1 h2 hp hi hM m1
   obtain⟨aP,roads⟩:=m
   simp only[HE,oN,aU,List.map_cons]at*
   simp(disch:=omega)only[go_sem,K.iJ,↓reduceIte,hq,List.length_cons,List.length_map,reduceAdd,reduceSub]
theorem GL:dn 0 N.bP [.t m.e,.t (tS fl),I r] []=some (.t (tL (u9 (gK m fl) m.roads.length r)),[]):=by
 refine bG K.jv rfl ?_
 have nr:=hm.nr
 have i1:=tJ (r:Int) 0 (m.roads.length-1)
 rw[decide_eq_true (by omega)]at i1
 obtain⟨q,lp,fo,ep,fl',wh,rfl⟩:=RX hm hf hr (.t m.e) (I r) .nil .und .und .und .und
 have sw:=Ea fo (by omega)
 rw[fl',wh]at sw
 generalize u9 (gK m fl) m.roads.length r=res at*
 clear wh
 obtain⟨aP,roads⟩:=m
 simp only[HE,oN,aU,List.map_replicate]at*
 simp(disch:=omega)only[go_sem,K.bP,↓reduceIte,i1,hf,lp,sw,List.map_replicate,reduceAdd,reduceSub]
end
end Go.Ev
namespace Go.Ev
open Go
variable [Lib] [dt] [dm] [kg] [jj] [mh] [gY] [i5] [lJ] [jV] [gJ] [jd] [jf] [kc] [jr]
noncomputable def gW(m:fJ)(fl:List Spn)(j:Nat):List (List Int):=(List.range j).map fun i=>u9 (gK m fl) m.roads.length i
def ec(m:fJ)(fl:List Spn)(j:Nat):List Int:=(List.range j).map fun i=>yJ (nth m.roads i) (nth fl i)
theorem Eb(m:fJ)(fl:List Spn)(j:Nat):gW m fl (j+1)=gW m fl j++[u9 (gK m fl) m.roads.length j]:=by
 unfold gW
 rw[List.range_succ,List.map_append];rfl
theorem Cs(m:fJ)(fl:List Spn)(j:Nat):ec m fl (j+1)=ec m fl j++[yJ (nth m.roads j) (nth fl j)]:=by
 unfold ec
 rw[List.range_succ,List.map_append];rfl
theorem tV(m:fJ)(fl:List Spn)(j:Nat):(gW m fl j).length=j:=by simp[gW]
theorem q7(m:fJ)(fl:List Spn)(j:Nat):(ec m fl j).length=j:=by simp[ec]
noncomputable abbrev NW (m:fJ) (fl:List Spn):T:= .agg [.sl (m.aP.map Place.e),.sl (m.roads.map Road.e),.sl ((gW m fl m.roads.length).map tL),tL (ec m fl m.roads.length)]
@[go_sem] theorem aaM (l : List (List Int)) : mg 1 (l.map tL) = true := by cases l <;> rfl
section
variable {m : fJ} (hm : m.ok) {fl : List Spn} (hf : fl.length = m.roads.length) (hs : ∀ x ∈ fl, x.ok)
include hm hf hs
theorem GM:∀z0 z5 z6 z7:D,
 exS dn K.pt ⟨[z0,.t (tS fl),.bp 0 0,.bp 1 0,.bp 2 0,z5,z6,z7,.t (.sl (m.roads.map Road.e)),I m.roads.length,I 0],
  [.box (aU m),.box [.nil,.nil,.nil,.nil],.box [.t (.sl (m.aP.map Place.e)),.t (.sl (m.roads.map Road.e)),.ref 5 0 0,.ref 6 0 0],.arr 1 false 0 [],.arr 1 false 0 [],.arr 1 false 0 [],.arr 1 false 0 []]⟩=
 some (.exit 0,⟨[.und,.t (tS fl),.bp 0 0,.bp 1 0,.bp 2 0,.und,.und,.und,.t (.sl (m.roads.map Road.e)),I m.roads.length,I m.roads.length],
  [.box (aU m),.box [.nil,.nil,.nil,.nil],.box [.t (.sl (m.aP.map Place.e)),.t (.sl (m.roads.map Road.e)),.ref 5 0 m.roads.length,.ref 6 0 m.roads.length],
   .arr 1 false 0 [],.arr 1 false 0 [],.arr 1 false 0 (((gW m fl m.roads.length).map tL).map .t),.arr 1 false 0 (((ec m fl m.roads.length).map (T.int .i64)).map .t)]⟩):=by
 intro z0 z5 z6 z7
 have nr:=hm.nr
 refine lj (fun j=>⟨[.und,.t (tS fl),.bp 0 0,.bp 1 0,.bp 2 0,.und,.und,.und,.t (.sl (m.roads.map Road.e)),I m.roads.length,I j],
  [.box (aU m),.box [.nil,.nil,.nil,.nil],.box [.t (.sl (m.aP.map Place.e)),.t (.sl (m.roads.map Road.e)),.ref 5 0 j,.ref 6 0 j],
   .arr 1 false 0 [],.arr 1 false 0 [],.arr 1 false 0 (((gW m fl j).map tL).map .t),.arr 1 false 0 (((ec m fl j).map (T.int .i64)).map .t)]⟩) m.roads.length rfl ?_ ?_ (by simp)
 · intro j hj
   have e1:(m.roads.map Road.e)[j]?=some (nth m.roads j).e:=i4 _ hj
   have e2:(fl.map Spn.e)[j]?=some (nth fl j).e:=i4 _ (by omega)
   have so:=GL hm hf hj
   have sp:=hs _ (jo (l:=fl) (j:=j) (by omega))
   have l1:=tV m fl j
   have l2:=q7 m fl j
   simp only[Eb,Cs]
   generalize u9 (gK m fl) m.roads.length j=sr at*
   have su:yJ (nth m.roads j) (nth fl j)=if(nth m.roads j).closed=true then 0 else min (max (max 0 (nth fl j).low) (0-(nth fl j).high)) 1048576:=rfl
   rw[su]
   generalize gW m fl j=as at*
   generalize ec m fl j=au at*
   generalize nth m.roads j=rd at*
   generalize nth fl j=fj at*
   obtain⟨aP,roads⟩:=m
   obtain⟨frm,to,len,area,walk,closed,restL,restH,liftL,liftH⟩:=rd
   obtain⟨low,high⟩:=fj
   unfold Spn.ok at sp
   simp only[aU,Road.e,Spn.e,List.map_append,List.map_cons,List.map_nil]at*
   cases closed
   · simp(disch:=omega)only[go_sem,K.jk,↓reduceIte,e1,e2,so,l1,l2,List.length_map,aLt,reduceAdd,reduceSub]
   · simp(disch:=omega)only[go_sem,K.jk,↓reduceIte,e1,e2,so,l1,l2,List.length_map,reduceAdd,reduceSub]
 · obtain⟨aP,roads⟩:=m
   simp only[aU]
   simp(disch:=omega)only[go_sem,K.jk,↓reduceIte,reduceAdd,reduceSub]
theorem FC:dn 0 N.dK [.t m.e,.t (tS fl)] []=some (.t (NW m fl),[]):=by
 refine bG K.mP rfl ?_
 have nr:=hm.nr
 have lp:=GM hm hf hs
 have l1:=tV m fl m.roads.length
 have l2:=q7 m fl m.roads.length
 unfold NW
 generalize gW m fl m.roads.length=as at*
 generalize ec m fl m.roads.length=au at*
 obtain⟨aP,roads⟩:=m
 simp only[aU]at*
 simp(disch:=omega)only[go_sem,K.dK,↓reduceIte,lp,l1,l2,List.length_map,reduceAdd,reduceSub]
end
end Go.Ev
namespace Go.Ev
open Go
variable [Lib] [dt] [dm] [kg] [jj] [mh] [gY] [i5] [lJ] [jV] [gJ] [jd] [jf] [kc] [jr]
theorem Ct(h:List Int):∀(l:List Int) (a c:Int),vE h (l++[a]) c=(if vE h l c<nth h a.toNat then nth h a.toNat else vE h l c)
 | [],a,c=>rfl
 | b::l,a,c=>by
   rw[List.cons_append]
   unfold vE
   exact Ct h l a _
theorem GN(m:fJ)(fl:List Spn){i:Nat}(hi:i<m.roads.length):nth (gW m fl m.roads.length) i=u9 (gK m fl) m.roads.length i:=oe (by simp[gW,hi])
theorem Ec(m:fJ)(fl:List Spn){i:Nat}(hi:i<m.roads.length):nth (ec m fl m.roads.length) i=yJ (nth m.roads i) (nth fl i):=oe (by simp[ec,hi])
theorem FD(f:Nat→Nat→Bool)(n r:Nat):(u9 f n r).length≤n:=zL _ _
noncomputable def GO(m:fJ)(fl:List Spn)(h:List Int)(s:Int)(j:Nat):List Int:=
 (List.range m.roads.length).map fun i=>if i<j then nth (GI m fl (gK m fl) h s) i else 0
theorem AQ(m:fJ)(fl:List Spn)(h:List Int)(s:Int)(j:Nat):(GO m fl h s j).length=m.roads.length:=by simp[GO]
theorem L9(m:fJ)(fl:List Spn)(h:List Int)(s:Int){j:Nat}(hj:j<m.roads.length):GO m fl h s (j+1)=(GO m fl h s j).set j (nth (GI m fl (gK m fl) h s) j):=by
 refine List.ext_getElem? fun k=>?_
 rw[List.getElem?_set]
 unfold GO
 simp only[aLn,List.length_map,List.length_range]
 by_cases e:j=k
 · subst e
   rw[if_pos rfl,if_pos hj,aLp hj]
   simp
 · rw[if_neg e]
   by_cases l:k<m.roads.length
   · rw[aLp l]
     simp only[aLw]
     congr 1
     by_cases g:k<j
     · rw[if_pos (by omega),if_pos g]
     · rw[if_neg (by omega),if_neg g]
   · rw[aLm (by simpa using l)]
     rfl
theorem Ma(m:fJ)(fl:List Spn)(h:List Int)(s:Int):GO m fl h s m.roads.length=GI m fl (gK m fl) h s:=by
 refine List.ext_getElem? fun k=>?_
 by_cases l:k<m.roads.length
 · unfold GO
   simp only[aLn,aLp l,aLw,if_pos l]
   have:=(wz m fl (gK m fl) h s)
   rw[aLc (by omega)]
   exact congrArg some (oe (aLc (by omega)))
 · rw[aLm (by rw[AQ];omega),aLm (by rw[wz];omega)]
theorem JE(m:fJ)(fl:List Spn)(h:List Int)(s:Int):GO m fl h s 0=List.replicate m.roads.length 0:=by
 unfold GO
 simp only[Nat.not_lt_zero,if_false]
 rw[List.map_const',List.length_range]
section
variable {m : fJ} (hm : m.ok) {fl : List Spn} (hf : fl.length = m.roads.length) {h : List Int} (hh : h.length = m.roads.length) (hb : ∀ i, i < m.roads.length → 0 ≤ nth h i ∧ nth h i ≤ 2000) {s : Int} (s0 : 0 ≤ s) (s1 : s ≤ 3600)
include hm hf hh hb s0 s1
abbrev Bw(m:fJ)(S:List (List Int))(Q:List Int):List D:=[.t (.sl (m.aP.map Place.e)),.t (.sl (m.roads.map Road.e)),.t (.sl (S.map tL)),.t (tL Q)]
theorem Mb{l:List Int}(hl:∀a∈l,∃k:Nat,a=k∧k<m.roads.length)(ll:l.length≤1000)(hi:Int)(i:Nat)(S:List (List Int))(Q R:List Int):∀z0 z4 z9 z10 z11:D,
 exS dn K.kq ⟨[z0,.t (tL h),I s,.bp 0 0,z4,.ref 1 0 m.roads.length,I i,I hi,I 0,z9,z10,z11,.t (tL h),I m.roads.length,I i,.t (tL l),I l.length,I 0],[.box (Bw m S Q),xr R]⟩=
  some (.exit 2,⟨[.und,.t (tL h),I s,.bp 0 0,.und,.ref 1 0 m.roads.length,I i,I hi,I (vE h l 0),.und,.und,.und,.t (tL h),I m.roads.length,I i,.t (tL l),I l.length,I l.length],[.box (Bw m S Q),xr R]⟩):=by
 intro z0 z4 z9 z10 z11
 have fin:vE h l 0=vE h (l.take l.length) 0:=by rw[List.take_length]
 rw[fin]
 refine lj (fun j=>⟨[.und,.t (tL h),I s,.bp 0 0,.und,.ref 1 0 m.roads.length,I i,I hi,I (vE h (l.take j) 0),.und,.und,.und,.t (tL h),I m.roads.length,I i,.t (tL l),I l.length,I j],[.box (Bw m S Q),xr R]⟩) l.length rfl ?_ ?_ (by simp)
 · intro j hj
   obtain⟨k,e,hk⟩:=hl _ (jo hj)
   have e1:=vf hj
   rw[e]at e1
   have e2:=vf (l:=h) (k:=k) (by omega)
   have tk:l.take (j+1)=l.take j++[(k:Int)]:=by rw[Ll hj,e]
   rw[tk,Ct,Int.toNat_natCast]
   generalize vE h (l.take j) 0=c at*
   obtain⟨aP,roads⟩:=m
   simp only[Bw,xr,tL]at*
   by_cases g:c<nth h k
   · rw[if_pos g]
     have mx:max c (nth h k)=nth h k:=by omega
     simp(disch:=omega)only[go_sem,K.dZ,↓reduceIte,e1,e2,e,mx,Int.toNat_natCast,reduceAdd,reduceSub]
   · rw[if_neg g]
     have mx:max c (nth h k)=c:=by omega
     simp(disch:=omega)only[go_sem,K.dZ,↓reduceIte,e1,e2,e,mx,Int.toNat_natCast,reduceAdd,reduceSub]
 · generalize vE h (l.take l.length) 0=c at*
   obtain⟨aP,roads⟩:=m
   simp only[Bw,xr,tL]
   simp(disch:=omega)only[go_sem,K.dZ,↓reduceIte,reduceAdd,reduceSub]
theorem Mc:∀z0 z4 z6 z7 z8 z9 z10 z11 z15 z16 z17:D,
 exS dn K.kr ⟨[z0,.t (tL h),I s,.bp 0 0,z4,.ref 1 0 m.roads.length,z6,z7,z8,z9,z10,z11,.t (tL h),I m.roads.length,I 0,z15,z16,z17],[.box (Bw m (gW m fl m.roads.length) (ec m fl m.roads.length)),xr (List.replicate m.roads.length 0)]⟩=
  some (.exit 0,⟨[.und,.t (tL h),I s,.bp 0 0,.und,.ref 1 0 m.roads.length,.und,.und,.und,.und,.und,.und,.t (tL h),I m.roads.length,I m.roads.length,.und,.und,.und],[.box (Bw m (gW m fl m.roads.length) (ec m fl m.roads.length)),xr (GI m fl (gK m fl) h s)]⟩):=by
 intro z0 z4 z6 z7 z8 z9 z10 z11 z15 z16 z17
 have nr:=hm.nr
 rw[← Ma,←JE m fl h s]
 refine lj (fun j=>⟨[.und,.t (tL h),I s,.bp 0 0,.und,.ref 1 0 m.roads.length,.und,.und,.und,.und,.und,.und,.t (tL h),I m.roads.length,I j,.und,.und,.und],[.box (Bw m (gW m fl m.roads.length) (ec m fl m.roads.length)),xr (GO m fl h s j)]⟩) m.roads.length rfl ?_ ?_ (by simp)
 · intro j hj
   have e1:(m.roads.map Road.e)[j]?=some (nth m.roads j).e:=i4 _ hj
   have e2:=vf (l:=h) (k:=j) (by omega)
   have e3:((gW m fl m.roads.length).map tL)[j]?=some (tL (u9 (gK m fl) m.roads.length j)):=by
    rw[← GN m fl hj]
    exact i4 _ (by rw[tV];exact hj)
   have e4:=vf (l:=ec m fl m.roads.length) (k:=j) (by rw[q7];exact hj)
   rw[Ec m fl hj]at e4
   have lp:=Mb hm hf hh hb s0 s1 (l:=u9 (gK m fl) m.roads.length j) (fun a ha=>by obtain⟨k,e,hk,_⟩:=sI ha;exact⟨k,e,hk⟩) (by have:=FD (gK m fl) m.roads.length j;omega) (nth h j) j (gW m fl m.roads.length) (ec m fl m.roads.length) (GO m fl h s j)
   have sl:=FD (gK m fl) m.roads.length j
   have vo:=JC hm hj (fl:=fl) hj
   have c0:=AO h (u9 (gK m fl) m.roads.length j) 0
   have c1:=D7 h 2000 (u9 (gK m fl) m.roads.length j) 0 (by omega) fun a ha=>by
    obtain⟨k,rfl,hk,_⟩:=sI ha
    rw[Int.toNat_natCast]
    exact(hb k hk).2
   have hbj:=hb j hj
   have al:=AQ m fl h s j
   rw[L9 m fl h s hj,sH m fl (gK m fl) h s hj]
   generalize u9 (gK m fl) m.roads.length j=sr at*
   generalize GO m fl h s j=R at*
   generalize gW m fl m.roads.length=S at*
   generalize ec m fl m.roads.length=Q at*
   generalize yJ (nth m.roads j) (nth fl j)=q at*
   generalize vE h sr 0=c at*
   have rr:=hm.rs _ (jo hj)
   have p1:0≤(nth m.roads j).len*(nth m.roads j).area∧(nth m.roads j).len*(nth m.roads j).area≤100000000:=by
    have v:=vo.1
    have v2:=vo.2.1
    unfold NV at v v2
    omega
   have q1:0≤q*s∧q*s≤3774873600:=⟨Int.mul_nonneg vo.2.2.1 s0,Int.le_trans (Int.mul_le_mul vo.2.2.2 s1 s0 (by omega)) (by omega)⟩
   unfold NV at vo ⊢
   generalize nth m.roads j=rd at*
   obtain⟨frm,to,len,area,walk,closed,restL,restH,liftL,liftH⟩:=rd
   obtain⟨l0,l1,a0,a1⟩:1≤len∧len≤100000∧1≤area∧area≤1000:=⟨rr.l0,rr.l1,rr.a0,rr.a1⟩
   dsimp only at p1 vo ⊢
   clear rr hb hm
   obtain⟨aP,roads⟩:=m
   have e5:=vf (l:=R.set j c) (k:=j) (by simp;omega)
   have ns:nth (R.set j c) j=c:=by rw[sG _ _ _ _ (by omega),if_pos rfl]
   rw[ns]at e5
   unfold Cp
   by_cases g:c<nth h j
   · rw[if_pos g]
     have b2:0≤(nth h j-c)*(len*area*1000)∧(nth h j-c)*(len*area*1000)≤2000*100000000000:=⟨Int.mul_nonneg (by omega) (by omega),Int.mul_le_mul (by omega) (by omega) (by omega) (by omega)⟩
     have b3:0≤((nth h j-c)*(len*area*1000)+(len*area*1000+q*s)-1).tdiv (len*area*1000+q*s)∧((nth h j-c)*(len*area*1000)+(len*area*1000+q*s)-1).tdiv (len*area*1000+q*s)≤400000000000000:=by
      refine⟨Int.tdiv_nonneg (by omega) (by omega),?_⟩
      have:=Int.tdiv_le_self (b:=len*area*1000+q*s) (a:=(nth h j-c)*(len*area*1000)+(len*area*1000+q*s)-1) (by omega)
      omega
     have nz:¬len*area*1000+q*s=0:=by omega
     simp only[Bw,xr,tL,Road.e]at*
     simp(disch:=omega)only[go_sem,K.eb,↓reduceIte,e1,e2,e3,e4,e5,ns,lp,g,nz,al,List.length_map,List.set_set,reduceAdd,reduceSub]
   · rw[if_neg g]
     simp only[Bw,xr,tL,Road.e]at*
     simp(disch:=omega)only[go_sem,K.eb,↓reduceIte,e1,e2,e3,e4,lp,g,al,List.length_map,reduceAdd,reduceSub]
 · have al:=AQ m fl h s m.roads.length
   generalize GO m fl h s m.roads.length=R at*
   obtain⟨aP,roads⟩:=m
   simp only[Bw,xr,tL]
   simp(disch:=omega)only[go_sem,K.eb,↓reduceIte,reduceAdd,reduceSub]
theorem FE:dn 0 N.br [.t (NW m fl),.t (tL h),I s] []=some (.t (tL (GI m fl (gK m fl) h s)),[]):=by
 refine bG K.iK rfl ?_
 have nr:=hm.nr
 have lp:=Mc hm hf hh hb s0 s1
 have al:=wz m fl (gK m fl) h s
 unfold NW
 generalize GI m fl (gK m fl) h s=R at*
 generalize gW m fl m.roads.length=S at*
 generalize ec m fl m.roads.length=Q at*
 obtain⟨aP,roads⟩:=m
 simp only[Bw,xr,tL,List.map_replicate]at*
 simp(disch:=omega)only[go_sem,K.br,↓reduceIte,lp,hh,al,List.length_map,List.map_replicate,reduceAdd,reduceSub]
end
end Go.Ev
namespace Go.Ev
open Go
variable [Lib] [dt] [dm] [kg] [jj] [mh] [gY] [i5] [lJ] [jV] [gJ] [jd] [jf] [kc] [jr]
abbrev xI(t:Int)(h:List Int):T:= .agg [tI t,tL h]
theorem Md(x:Int):dn 0 N.bD [I x] []=some (B (!decide (0≤x∧x≤1000000)),[]):=by
 refine bG K.jw rfl ?_
 have i1:=tJ x 0 1000000
 simp(disch:=omega)only[go_sem,K.bD,↓reduceIte,i1,reduceAdd,reduceSub]
theorem Me(f:Spn):dn 0 N.bk [.t f.e] []=some (B (!decide f.ok),[]):=by
 refine bG K.ju rfl ?_
 obtain⟨lo,hi⟩:=f
 unfold Spn.ok
 by_cases h1: -1125899906842624≤lo
 · by_cases h2:hi≤1125899906842624
   · by_cases h3:lo≤hi
     · simp(disch:=omega)only[go_sem,K.bk,↓reduceIte,h1,h2,h3,and_self,decide_true,Bool.not_true,reduceAdd,reduceSub]
     · simp(disch:=omega)only[go_sem,K.bk,↓reduceIte,h1,h2,h3,and_false,decide_false,Bool.not_false,reduceAdd,reduceSub]
   · simp(disch:=omega)only[go_sem,K.bk,↓reduceIte,h1,h2,and_false,false_and,decide_false,Bool.not_false,reduceAdd,reduceSub]
 · simp(disch:=omega)only[go_sem,K.bk,↓reduceIte,h1,and_false,false_and,decide_false,Bool.not_false,reduceAdd,reduceSub]
section
variable {m : fJ} (hm : m.ok) {fl : List Spn} (hf : fl.length = m.roads.length) (hs : ∀ x ∈ fl, x.ok)
include hm hf hs
theorem xJ{h:List Int}(hh:h.length=m.roads.length)(hb:∀i,i<m.roads.length→0≤nth h i∧nth h i≤2000){t:Int}(t0:0≤t)(t1:t≤2147483648):dn 0 N.bO [.t m.e,.t (tS fl),.t (xI t h)] []=some (B true,[]):=by
 refine bG K.kH rfl ?_
 have nr:=hm.nr
 have pv:=uU hm
 have va:dn 0 N.cA [.t m.e,.t (xI t h)] []=some (B true,[]):=by
  refine bG K.kI rfl ?_
  have i1:=tJ t 0 2147483648
  rw[decide_eq_true ⟨t0,t1⟩]at i1
  have cf:=lQ h (by omega) N.bD [] (fun x=> !decide (0≤x∧x≤1000000)) (fun x _=>Md x)
  have an:h.any (fun x=> !decide (0≤x∧x≤1000000))=false:=by
   rw[List.any_eq_false]
   intro x hx
   obtain⟨j,hj⟩:=aLf.1 hx
   have:=oe hj
   have b:=hb j (by rw[← hh];exact(aLe.1 hj).1)
   rw[this]at b
   rw[decide_eq_true (by omega)]
   simp
  rw[an]at cf
  have cf:dn 0 N.ai [.t (tL h),.fn N.bD []] []=some (B false,[]):=cf
  obtain⟨aP,roads⟩:=m
  simp only at*
  simp(disch:=omega)only[go_sem,K.cA,↓reduceIte,pv,hh,i1,cf,Bool.not_false,reduceAdd,reduceSub]
 have cg:=vD fl (by omega) N.bk [] (fun x=> !decide x.ok) (fun x _=>Me x)
 have ag:fl.any (fun x=> !decide x.ok)=false:=by
  rw[List.any_eq_false]
  intro x hx
  rw[decide_eq_true (hs x hx)];simp
 rw[ag]at cg
 have cg:dn 0 N.aq [.t (.sl (fl.map Spn.e)),.fn N.bk []] []=some (B false,[]):=cg
 obtain⟨aP,roads⟩:=m
 simp only at*
 simp(disch:=omega)only[go_sem,K.bO,↓reduceIte,va,hf,cg,Bool.not_false,reduceAdd,reduceSub]
theorem GP{h:List Int}(hh:h.length=m.roads.length)(hb:∀i,i<m.roads.length→0≤nth h i∧nth h i≤2000){t u:Int}(t0:0≤t)(tu:t≤u)(u1:u≤2147483648)(ut:u-t≤3600):
 dn 0 N.cz [.t m.e,.t (tS fl),.t (xI t h),I u] []=some (.tup [.t (xI u (GI m fl (gK m fl) h (u-t))),I 0],[]):=by
 refine bG K.lx rfl ?_
 have gv:=xJ hm hf hs hh hb t0 (t:=t) (by omega)
 have ao:=FC hm hf hs
 have af:=FE hm hf hh hb (s:=u-t) (by omega) ut
 generalize GI m fl (gK m fl) h (u-t)=r at*
 unfold NW at*
 generalize gW m fl m.roads.length=S at*
 generalize ec m fl m.roads.length=Q at*
 obtain⟨aP,roads⟩:=m
 simp only at*
 simp(disch:=omega)only[go_sem,K.cz,↓reduceIte,gv,ao,af,reduceAdd,reduceSub]
theorem Ed{q:Nat}(hq:q<m.roads.length):dn 0 N.bZ [.t m.e,.t (tL [(q:Int)]),I 2000,I 100] []=some (.tup [.t (xI 100 ((List.replicate m.roads.length (0:Int)).set q 2000)),I 0],[]):=by
 refine bG K.kF rfl ?_
 have nr:=hm.nr
 have pv:=uU hm
 have ri:=xi [(q:Int)] 0 (m.roads.length-1) (by simp)
 rw[DO,AK (by omega) (by omega)]at ri
 have i1:=tJ 2000 0 1000000
 have i2:=tJ 100 0 2147483648
 simp only[show decide ((0:Int)≤2000∧(2000:Int)≤1000000)=true by decide]at i1
 simp only[show decide ((0:Int)≤100∧(100:Int)≤2147483648)=true by decide]at i2
 have lp:∀z0 z1 z3 z4 z6 z8:D,exS dn K.mC ⟨[z0,z1,I 2000,z3,z4,.bp 1 0,z6,.bp 3 0,z8,.t (tL [(q:Int)]),I 1,I 0],[.box (aU m),.box [I 0,.nil],.arr 1 false 0 ((List.replicate m.roads.length (T.int .i64 0)).map .t),.box [I 100,.ref 2 0 m.roads.length]]⟩=
  some (.exit 1,⟨[.und,.und,I 2000,.und,.und,.bp 1 0,.und,.bp 3 0,.und,.t (tL [(q:Int)]),I 1,I 1],[.box (aU m),.box [I 0,.nil],xr ((List.replicate m.roads.length (0:Int)).set q 2000),.box [I 100,.ref 2 0 m.roads.length]]⟩):=by
  intro z0 z1 z3 z4 z6 z8
  refine lj (fun j=>⟨[.und,.und,I 2000,.und,.und,.bp 1 0,.und,.bp 3 0,.und,.t (tL [(q:Int)]),I 1,I j],[.box (aU m),.box [I 0,.nil],xr (if j=0 then List.replicate m.roads.length (0:Int)else(List.replicate m.roads.length (0:Int)).set q 2000),.box [I 100,.ref 2 0 m.roads.length]]⟩) 1 (by simp[xr,jO]) ?_ ?_ (by simp)
  · intro j hj
    obtain rfl:j=0:=by omega
    have lR:(List.replicate m.roads.length (0:Int)).length=m.roads.length:=by simp
    generalize List.replicate m.roads.length (0:Int)=R at*
    have ex:=vf (l:=R) (k:=q) (by omega)
    obtain⟨aP,roads⟩:=m
    simp only[aU,xr,tL,List.map_cons,List.map_nil,if_true,show ¬(0+1=0)by omega,if_false]at*
    simp(disch:=omega)only[go_sem,K.jq,↓reduceIte,ex,lR,List.getElem?_cons_zero,List.length_map,reduceAdd,reduceSub]
  · obtain⟨aP,roads⟩:=m
    simp only[aU,xr,tL,List.map_cons,List.map_nil,show ¬(1=0)by omega,if_false]
    simp(disch:=omega)only[go_sem,K.jq,↓reduceIte,reduceAdd,reduceSub]
 obtain⟨aP,roads⟩:=m
 simp only[aU,xr,tL,List.map_cons,List.map_nil,List.map_replicate]at*
 simp(disch:=omega)only[go_sem,K.bZ,↓reduceIte,pv,ri,i1,i2,lp,List.length_cons,List.length_nil,List.length_map,List.length_set,List.length_replicate,List.map_replicate,reduceAdd,reduceSub]
end
end Go.Ev
namespace Go.Ev
open Go
variable [Lib] [dt] [dm] [kg] [jj] [mh] [gY] [i5] [lJ] [jV] [gJ] [jd] [jf] [kc] [jr]
theorem JF(h:List Int){q:Nat}(hq:q<h.length):dn 0 N.bz [I q,.bp 0 0,.bp 1 0] [.box [.t (tL h)],.box [I 50]]=some (B (decide (50<nth h q)),[.box [.t (tL h)],.box [I 50]]):=by
 refine bG K.jt rfl ?_
 have e:=vf hq
 simp only[tL]
 by_cases c:50<nth h q
 · simp(disch:=omega)only[go_sem,K.bz,↓reduceIte,e,c,reduceAdd,reduceSub]
 · simp(disch:=omega)only[go_sem,K.bz,↓reduceIte,e,c,reduceAdd,reduceSub]
section
variable {m : fJ} (hm : m.ok) {fl : List Spn} (hf : fl.length = m.roads.length) (hs : ∀ x ∈ fl, x.ok) {q : Nat} (hq : q < m.roads.length)
include hm hf hs hq
noncomputable abbrev fuK (m:fJ) (fl:List Spn) (q k:Nat):List Int:=vd m fl (gK m fl) q k
noncomputable def AR(m:fJ)(fl:List Spn)(q k:Nat):Bool:=decide (nth (fuK m fl q k) q≤50)
noncomputable abbrev unH (m:fJ) (fl:List Spn) (q:Nat) (j:Nat):aj:=[.box (aU m),.box [I 100,.t (tL (fuK m fl q 0))],.box [I 50],.box (Bw m (gW m fl m.roads.length) (ec m fl m.roads.length)),.box [.t (tL (fuK m fl q j))]]
theorem GQ:∀z0 z1 z2 z4 z7 z10 z11:D,
 exS dn K.mD ⟨[z0,z1,z2,.t (tL [(q:Int)]),z4,I 60,I 40,z7,.bp 1 0,.bp 2 0,z10,z11,.bp 3 0,.bp 4 0,I 0],unH m fl q 0⟩=
  some (if(List.range 41).any (AR m fl q)=true then(.ret,⟨[.und,.und,.und,.t (tL [(q:Int)]),.und,I 60,I 40,.und,.bp 1 0,.bp 2 0,I ((lS 41 (AR m fl q):Int)*60),I 0,.bp 3 0,.bp 4 0,I (lS 41 (AR m fl q))],unH m fl q (lS 41 (AR m fl q))⟩)
   else(.exit 1,⟨[.und,.und,.und,.t (tL [(q:Int)]),.und,I 60,I 40,.und,.bp 1 0,.bp 2 0,.und,.und,.bp 3 0,.bp 4 0,I 41],unH m fl q 41⟩)):=by
 intro z0 z1 z2 z4 z7 z10 z11
 have cf:∀j,dn 0 N.ai [.t (tL [(q:Int)]),.fn N.bz [.bp 0 0,.bp 1 0]] [.box [.t (tL (fuK m fl q j))],.box [I 50]]=some (B (!AR m fl q j),[.box [.t (tL (fuK m fl q j))],.box [I 50]]):=fun j=>by
  have cf:=lQ [(q:Int)] (by simp) N.bz [[tL (fuK m fl q j)],[tI 50]] (fun _=>decide (50<nth (fuK m fl q j) q)) (fun x hx=>by
   rw[List.mem_singleton]at hx
   subst hx
   exact JF (fuK m fl q j) (by rw[nW];exact hq))
  have e:[(q:Int)].any (fun _=>decide (50<nth (fuK m fl q j) q))= !AR m fl q j:=by
   unfold AR
   simp only[List.any_cons,List.any_nil,Bool.or_false]
   rw[Bool.eq_iff_iff]
   simp
  rw[e]at cf
  exact cf
 refine Cf (fun j=>⟨[.und,.und,.und,.t (tL [(q:Int)]),.und,I 60,I 40,.und,.bp 1 0,.bp 2 0,.und,.und,.bp 3 0,.bp 4 0,I j],unH m fl q j⟩) 41 (AR m fl q)
  (fun j=>(.ret,⟨[.und,.und,.und,.t (tL [(q:Int)]),.und,I 60,I 40,.und,.bp 1 0,.bp 2 0,I ((j:Int)*60),I 0,.bp 3 0,.bp 4 0,I j],unH m fl q j⟩)) _ rfl ?_ ?_ ?_ (by simp)
 · intro j hj hp
   have cj:=cf j
   rw[hp]at cj
   clear cf
   have af:dn 0 N.br [.t (NW m fl),.t (tL (fuK m fl q j)),I 60] []=some (.t (tL (fuK m fl q (j+1))),[]):=FE hm hf (nW m fl (gK m fl) q j) (fun i hi=>p7 hm hq j i hi) (s:=60) (by omega) (by omega)
   unfold NW at af
   simp only[unH]
   generalize fuK m fl q (j+1)=h1 at*
   generalize fuK m fl q 0=h0 at*
   generalize fuK m fl q j=hj0 at*
   generalize gW m fl m.roads.length=S at*
   generalize ec m fl m.roads.length=Q at*
   obtain⟨aP,roads⟩:=m
   simp only[aU,Bw,tL,List.map_cons,List.map_nil]at*
   simp(disch:=omega)only[go_sem,K.gF,↓reduceIte,cj,af,Bool.not_false,Bool.not_true,reduceAdd,reduceSub]
 · intro j hj hp
   have cj:=cf j
   rw[hp]at cj
   clear cf
   refine⟨?_,by simp⟩
   simp only[unH]
   generalize fuK m fl q 0=h0 at*
   generalize fuK m fl q j=hj0 at*
   generalize gW m fl m.roads.length=S at*
   generalize ec m fl m.roads.length=Q at*
   obtain⟨aP,roads⟩:=m
   simp only[aU,Bw,tL,List.map_cons,List.map_nil]at*
   simp(disch:=omega)only[go_sem,K.gF,↓reduceIte,cj,Bool.not_false,Bool.not_true,reduceAdd,reduceSub]
 · simp only[unH]
   generalize fuK m fl q 0=h0 at*
   generalize fuK m fl q 41=hj0 at*
   obtain⟨aP,roads⟩:=m
   simp only[aU,Bw,tL,List.map_cons,List.map_nil]
   simp(disch:=omega)only[go_sem,K.gF,↓reduceIte,reduceAdd,reduceSub]
   rfl
noncomputable def FF(m:fJ)(fl:List Spn)(q:Nat):Int×Int:=if(List.range 41).any (AR m fl q)=true then((lS 41 (AR m fl q):Int)*60,0)else(0,50)
theorem Mf:dn 0 N.b5 [.t m.e,.t (tS fl),.t (xI 100 (fuK m fl q 0)),.t (tL [(q:Int)]),I 50,I 60,I 40] []=some (.tup [I (FF m fl q).1,I (FF m fl q).2],[]):=by
 refine bG K.kG rfl ?_
 have nr:=hm.nr
 have gv:dn 0 N.bO [.t m.e,.t (tS fl),.t (xI 100 (fuK m fl q 0))] []=some (B true,[]):=xJ hm hf hs (nW m fl (gK m fl) q 0) (fun i hi=>p7 hm hq 0 i hi) (t:=100) (by omega) (by omega)
 have ri:=xi [(q:Int)] 0 (m.roads.length-1) (by simp)
 rw[DO,AK (by omega) (by omega)]at ri
 have i1:=tJ 50 0 1000000
 have i2:=tJ 60 1 3600
 have i3:=tJ 40 0 1000
 simp only[show decide ((0:Int)≤50∧(50:Int)≤1000000)=true by decide]at i1
 simp only[show decide ((1:Int)≤60∧(60:Int)≤3600)=true by decide]at i2
 simp only[show decide ((0:Int)≤40∧(40:Int)≤1000)=true by decide]at i3
 have ao:=FC hm hf hs
 have lp:=GQ hm hf hs hq
 unfold NW at ao
 unfold FF
 simp only[unH]at lp
 generalize lS 41 (AR m fl q)=n at*
 generalize fuK m fl q n=hn at*
 generalize fuK m fl q 41=hx at*
 generalize fuK m fl q 0=h0 at*
 generalize gW m fl m.roads.length=S at*
 generalize ec m fl m.roads.length=Q at*
 by_cases c:(List.range 41).any (AR m fl q)=true
 · simp only[if_pos c]at lp ⊢
   clear c
   obtain⟨aP,roads⟩:=m
   simp only[aU,Bw,xI,tL,List.map_cons,List.map_nil]at*
   simp(disch:=omega)only[go_sem,K.b5,↓reduceIte,gv,ri,i1,i2,i3,ao,lp,Bool.not_true,reduceAdd,reduceSub]
 · simp only[if_neg c]at lp ⊢
   clear c
   obtain⟨aP,roads⟩:=m
   simp only[aU,Bw,xI,tL,List.map_cons,List.map_nil]at*
   simp(disch:=omega)only[go_sem,K.b5,↓reduceIte,gv,ri,i1,i2,i3,ao,lp,Bool.not_true,reduceAdd,reduceSub]
end
end Go.Ev
namespace Go.Ev
open Go
variable [Lib] [dt] [dm] [kg] [jj] [mh] [gY] [i5] [lJ] [jV] [gJ] [jd] [jf] [kc] [jr]
abbrev yL(w:Int)(q:Nat):T:= .agg [tI w,tI 50,tL [(q:Int)]]
abbrev AS:T:= .agg [tI 0,tI 0,tI 0,tI 0]
theorem JG:dn 0 N.dL [I 1,I 2] []=some (B true,[]):=by
 refine bG K.mQ rfl ?_
 simp(disch:=omega)only[go_sem,K.dL,↓reduceIte,reduceAdd,reduceSub]
section
variable {w : Int} (w0 : 0 ≤ w) (w1 : w ≤ 2550) {q : Nat} (hq : q < 128)
include w0 w1 hq
theorem FH:dn 0 N.c8 [.t (yL w q),.t AS] []=some (B true,[]):=by
 refine bG K.lW rfl ?_
 have i1:=tJ w 0 2147483648
 rw[decide_eq_true (by omega)]at i1
 have i2:=tJ 50 0 1000000
 have i3:=tJ 0 0 2147483648
 simp only[show decide ((0:Int)≤50∧(50:Int)≤1000000)=true by decide]at i2
 simp only[show decide ((0:Int)≤0∧(0:Int)≤2147483648)=true by decide]at i3
 have ri:=xi [(q:Int)] 0 127 (by simp)
 rw[show(127:Int)=128-1 by omega,DO,show(128:Int)=((128:Nat):Int)by rfl,AK (by omega) (by omega)]at ri
 have ri:dn 0 N.bl [.t (tL [(q:Int)]),I 0,I 127] []=some (B true,[]):=ri
 simp only[yL,xI,AS,tL,List.map_cons,List.map_nil]at*
 simp(disch:=omega)only[go_sem,K.c8,↓reduceIte,i1,i2,i3,ri,Bool.not_true,List.length_cons,List.length_nil,reduceAdd,reduceSub]
theorem GR{h:List Int}(hh:q<h.length)(hl:h.length≤1000)(t:Int):dn 0 N.c9 [.t (yL w q),.t (xI t h),.t (.sl [.agg [tI 0,tI 50]]),I t] []=some (B (decide (nth h q≤50)),[]):=by
 refine bG K.lX rfl ?_
 have va:=FH w0 w1 hq
 have e:=vf hh
 by_cases c:nth h q≤50
 · rw[decide_eq_true c]
   have lp:∀z0 z1 z3 z6 z7 z8 z9:D,exS dn K.lr ⟨[z0,z1,.t (.sl [.agg [tI 0,tI 50]]),z3,.bp 0 0,.bp 1 0,z6,z7,z8,z9,.t (tL [(q:Int)]),I 1,I 0],[.box [I w,I 50,.t (tL [(q:Int)])],.box [I t,.t (tL h)]]⟩=
    some (.exit 0,⟨[.und,.und,.t (.sl [.agg [tI 0,tI 50]]),.und,.bp 0 0,.bp 1 0,.und,.und,.und,.und,.t (tL [(q:Int)]),I 1,I 1],[.box [I w,I 50,.t (tL [(q:Int)])],.box [I t,.t (tL h)]]⟩):=by
    intro z0 z1 z3 z6 z7 z8 z9
    refine lj (fun j=>⟨[.und,.und,.t (.sl [.agg [tI 0,tI 50]]),.und,.bp 0 0,.bp 1 0,.und,.und,.und,.und,.t (tL [(q:Int)]),I 1,I j],[.box [I w,I 50,.t (tL [(q:Int)])],.box [I t,.t (tL h)]]⟩) 1 rfl ?_ ?_ (by simp)
    · intro j hj
      obtain rfl:j=0:=by omega
      simp only[tL,List.map_cons,List.map_nil]
      simp(disch:=omega)only[go_sem,K.iV,↓reduceIte,e,c,List.getElem?_cons_zero,reduceAdd,reduceSub]
    · simp only[tL,List.map_cons,List.map_nil]
      simp(disch:=omega)only[go_sem,K.iV,↓reduceIte,reduceAdd,reduceSub]
   simp only[yL,xI,AS,tL,List.map_cons,List.map_nil]at*
   simp(disch:=omega)only[go_sem,K.c9,↓reduceIte,va,lp,Bool.not_true,List.length_cons,List.length_nil,reduceAdd,reduceSub]
 · rw[decide_eq_false c]
   have lp:∀z0 z1 z3 z6 z7 z8 z9:D,exS dn K.lr ⟨[z0,z1,.t (.sl [.agg [tI 0,tI 50]]),z3,.bp 0 0,.bp 1 0,z6,z7,z8,z9,.t (tL [(q:Int)]),I 1,I 0],[.box [I w,I 50,.t (tL [(q:Int)])],.box [I t,.t (tL h)]]⟩=
    some (.ret,⟨[.und,.und,.t (.sl [.agg [tI 0,tI 50]]),.und,.bp 0 0,.bp 1 0,B false,I 0,I q,.bp 2 0,.t (tL [(q:Int)]),I 1,I 0],[.box [I w,I 50,.t (tL [(q:Int)])],.box [I t,.t (tL h)],.box [I 0,I 50]]⟩):=by
    intro z0 z1 z3 z6 z7 z8 z9
    refine IM (jA ?_ (by simp))
    simp only[tL,List.map_cons,List.map_nil,jO,List.set]
    simp(disch:=omega)only[go_sem,K.iV,↓reduceIte,e,c,List.getElem?_cons_zero,reduceAdd,reduceSub]
   simp only[yL,xI,AS,tL,List.map_cons,List.map_nil]at*
   simp(disch:=omega)only[go_sem,K.c9,↓reduceIte,va,lp,Bool.not_true,List.length_cons,List.length_nil,reduceAdd,reduceSub]
theorem Cu{h:List Int}(hh:q<h.length)(hl:h.length≤1000){s:Int}(s0:0≤s)(s1:s≤1000000):∃(a b c d e:Int),
 dn 0 N.bN [.t (yL w q),.t AS,.t (xI (100+s) h),.t (.sl [.agg [tI 0,tI 50]]),I 1,I 2,I 100,I (100+s)] []=some (.tup [.t (.agg [tI a,tI b,tI c,tI d]),I e],[])∧(e=0↔(w≤s∧nth h q≤50)):=by
 have va:=FH w0 w1 hq
 have cl:=GR w0 w1 hq hh hl (100+s)
 have pa:=JG
 have i1:=tJ (100+s) 100 2147483648
 rw[decide_eq_true (by omega)]at i1
 by_cases c1:w≤s
 · by_cases c2:nth h q≤50
   · rw[decide_eq_true c2]at cl
     refine⟨1,100+s,1,2,0,bG K.fZ rfl ?_,by simp[c1,c2]⟩
     simp only[yL,xI,AS,tL,List.map_cons,List.map_nil]at*
     simp(disch:=omega)only[go_sem,K.bN,↓reduceIte,va,cl,pa,i1,c1,Bool.not_true,show max (max (0:Int) 0) 100=100 by decide,reduceAdd,reduceSub]
   · rw[decide_eq_false c2]at cl
     refine⟨0,0,0,0,50,bG K.fZ rfl ?_,by simp[c2]⟩
     simp only[yL,xI,AS,tL,List.map_cons,List.map_nil]at*
     simp(disch:=omega)only[go_sem,K.bN,↓reduceIte,va,cl,pa,i1,c1,Bool.not_true,Bool.not_false,show max (max (0:Int) 0) 100=100 by decide,reduceAdd,reduceSub]
 · refine⟨0,0,0,0,8,bG K.fZ rfl ?_,by simp[c1]⟩
   simp only[yL,xI,AS,tL,List.map_cons,List.map_nil]at*
   simp(disch:=omega)only[go_sem,K.bN,↓reduceIte,va,cl,pa,i1,c1,Bool.not_true,show max (max (0:Int) 0) 100=100 by decide,reduceAdd,reduceSub]
end
end Go.Ev
namespace Go.Ev
open Go
variable [Lib] [dt] [dm] [kg] [jj] [mh] [gY] [i5] [lJ] [jV] [gJ] [jd] [jf] [kc] [jr]
theorem RY{P:Program}{n:Nat}{t:TypeId}{x:T}(hu:P.underlying t=some (.int .u8))(h:okT P (n+1) t x):∃m,x= .int .u8 m∧0≤m∧m<256:=by
 obtain⟨h1,h2,h3⟩:=h
 have hA:eR P t=false:=by unfold eR;rw[hu]
 unfold okC at h1
 rw[hu]at h1
 obtain⟨m,h4,h5⟩:=h1
 rw[xb (h3 hA)]at h4
 have e1:IntKind.u8.min=0:=rfl
 have e2:IntKind.u8.max=255:=rfl
 simp only[Lit.wf,e1,e2,aLr,decide_eq_true_eq]at h5
 exact⟨m,by simpa using h4,by omega,by omega⟩
theorem Ee{n:Nat}{p:Nat→Bool}(h:(List.range n).any p=true):lS n p<n∧p (lS n p)=true∧∀j,j<lS n p→p j=false:=by
 unfold lS
 cases hf:(List.range n).find? p with
 | none=>
   rw[List.find?_eq_none]at hf
   rw[List.any_eq_true]at h
   obtain⟨x,hx,hp⟩:=h
   exact absurd hp (by simpa using hf x hx)
 | some k=>
   have h1:=List.find?_some hf
   have h2:=aLu.1 (List.mem_of_find?_eq_some hf)
   refine⟨h2,h1,fun j hj=>?_⟩
   rw[List.find?_range_eq_some]at hf
   have:=hf.2.2 j (by simpa using hj)
   simpa using this
section
variable {m : fJ} (hm : m.ok) {fl : List Spn} (hf : fl.length = m.roads.length) (hs : ∀ x ∈ fl, x.ok) {q : Nat} (hq : q < m.roads.length) {w : Int} (w0 : 0 ≤ w) (w1 : w ≤ 2550)
include hm hf hs hq w0 w1
noncomputable abbrev reH (e:aX) (m:fJ) (fl:List Spn) (q:Nat) (w:Int) (j:Nat):aj:=[e.obj,.box (aU m),.box [I (100+60*(j:Int)),.t (tL (fuK m fl q j))],.box [I w,I 50,.t (tL [(q:Int)])]]
abbrev reS(fl:List Spn)(n s:Int):List D:=[.und,.und,.und,.und,.bp 1 0,.t (tS fl),.und,.bp 2 0,I 0,I n,.bp 3 0,.t (.sl [.agg [tI 0,tI 50]]),I s,.und]
theorem RZ{nn:Nat}(h1:AR m fl q nn=true)(h2:∀j,j<nn→AR m fl q j=false){j:Nat}(hj:j≤nn+1):nth (fuK m fl q j) q≤50↔nn≤j:=by
 unfold AR at h1 h2
 rw[decide_eq_true_eq]at h1
 by_cases c:j<nn
 · have:=h2 j c
   rw[decide_eq_false_iff_not]at this
   exact⟨fun h=>absurd h this,fun h=>by omega⟩
 · by_cases d:j=nn
   · subst d
     exact⟨fun _=>aLs _,fun _=>h1⟩
   · have e:j=nn+1:=by omega
     subst e
     exact⟨fun _=>by omega,fun _=>GK hm hq h1⟩
theorem R0(e:aX){nn:Nat}(hN:nn≤40)(h1:AR m fl q nn=true)(h2:∀j,j<nn→AR m fl q j=false):∀z0 z1 z2 z3 z6 z13:D,
 exS dn K.nf ⟨[z0,z1,z2,z3,.bp 1 0,.t (tS fl),z6,.bp 2 0,I 0,I (60*(nn:Int)),.bp 3 0,.t (.sl [.agg [tI 0,tI 50]]),I 0,z13],reH e m fl q w 0⟩=
  some (.exit 0,⟨reS fl (60*(nn:Int)) (60*((nn:Int)+2)),reH e m fl q w (nn+2)⟩):=by
 intro z0 z1 z2 z3 z6 z13
 have nr:=hm.nr
 refine lj (fun j=>⟨reS fl (60*(nn:Int)) (60*(j:Int)),reH e m fl q w j⟩) (nn+2) (by simp[reS,jO]) ?_ ?_ (by simp)
 · intro j hj
   obtain⟨a,b,c,d,er,ins,iff⟩:=Cu w0 w1 (q:=q) (by omega) (h:=fuK m fl q j) (by rw[nW];exact hq) (by rw[nW];omega) (s:=60*(j:Int)) (by omega) (by omega)
   have st:dn 0 N.cz [.t m.e,.t (tS fl),.t (xI (100+60*(j:Int)) (fuK m fl q j)),I (100+60*(j:Int)+60)] []=some (.tup [.t (xI (100+60*(j:Int)+60) (fuK m fl q (j+1))),I 0],[]):=by
    have:=GP hm hf hs (nW m fl (gK m fl) q j) (fun i hi=>p7 hm hq j i hi) (t:=100+60*(j:Int)) (u:=100+60*(j:Int)+60) (by omega) (by omega) (by omega) (by omega)
    rw[show(100+60*(j:Int)+60)-(100+60*(j:Int))=60 by omega]at this
    exact this
   rw[RZ hm hf hs hq w0 w1 h1 h2 (by omega)]at iff
   have ln:(fuK m fl q (j+1)).length=m.roads.length:=nW _ _ _ _ _
   have nx:(60:Int)*((j+1:Nat):Int)=60*(j:Int)+60:=by push_cast;omega
   have nx2:(100:Int)+(60*(j:Int)+60)=100+60*(j:Int)+60:=by omega
   simp only[reH,reS,nx,nx2]
   generalize fuK m fl q (j+1)=h' at*
   generalize fuK m fl q j=h0 at*
   clear h1 h2 nx nx2 hs
   obtain⟨aP,roads⟩:=m
   simp only[aU,yL,xI,AS,tL,List.map_cons,List.map_nil]at*
   have g1:60*(j:Int)≤60*(nn:Int)+60:=by omega
   by_cases x1:nn≤j
   · have x1':60*(nn:Int)≤60*(j:Int):=by omega
     by_cases x2:w≤60*(j:Int)
     · have er0:er=0:=iff.2 ⟨x2,x1⟩
       subst er0
       simp(disch:=omega)only[go_sem,K.fG,↓reduceIte,ins,st,ln,g1,x1',x2,decide_true,reduceAdd,reduceSub]
     · have er0:¬er=0:=fun h=>x2 (iff.1 h).1
       simp(disch:=omega)only[go_sem,K.fG,↓reduceIte,ins,st,ln,g1,x1',x2,er0,decide_true,decide_false,reduceAdd,reduceSub]
   · have x1':¬60*(nn:Int)≤60*(j:Int):=by omega
     have er0:¬er=0:=fun h=>x1 (iff.1 h).2
     simp(disch:=omega)only[go_sem,K.fG,↓reduceIte,ins,st,ln,g1,x1',er0,decide_true,decide_false,reduceAdd,reduceSub]
 · simp only[reH,reS]
   generalize fuK m fl q (nn+2)=h0 at*
   have nx:(60:Int)*((nn+2:Nat):Int)=60*((nn:Int)+2):=by push_cast;omega
   rw[nx]
   obtain⟨aP,roads⟩:=m
   simp only[aU,tL,List.map_cons,List.map_nil]
   simp(disch:=omega)only[go_sem,K.fG,↓reduceIte,reduceAdd,reduceSub]
end
theorem Kz(aw:dn 0 N.fY [] []=some (B true,[]))(li:List Int)(w:Int)(w0:0≤w)(w1:w≤255):dn 0 N.cy [.t (tL li),.t (.int .u8 w)] []=some (B true,[]):=by
 refine bG K.lu rfl ?_
 have lo:=Ln li
 by_cases c:li.length≤400
 · simp only[c,decide_true]at lo
   have ro:=XQ li
   have d0:(aX.mk li 0).fX:=c
   generalize (aX.mk li 0)=d at*
   obtain⟨m,e1,mo,l1,hm,p1,p2,r1,r2⟩:=XT d0
   obtain⟨fl,e2,fo,l2,f1,f2⟩:=QD l1 hm
   obtain⟨v,e3,vo,l3,v0,v1⟩:=XR l2 m.roads.length (by omega) (by omega)
   obtain⟨q,rfl⟩:∃k:Nat,v=k:=⟨v.toNat,by omega⟩
   have hq:q<m.roads.length:=by omega
   have st:dn 0 N.bZ [.t m.e,.t (tL [(q:Int)]),I 2000,I 100] []=some (.tup [.t (xI 100 (fuK m fl q 0)),I 0],[]):=Ed hm f1 f2 hq
   have un:=Mf hm f1 f2 hq
   unfold FF at un
   by_cases an:(List.range 41).any (AR m fl q)=true
   · rw[if_pos an]at un
     obtain⟨n1,n2,n3⟩:=Ee an
     generalize lS 41 (AR m fl q)=nn at*
     have lp:=R0 hm f1 f2 hq (w:=w*10) (by omega) (by omega) e3 (by omega) n2 n3 (.t (tL li)) (.t (.int .u8 w)) (B false) (.bp 0 0) (.t (tL [(q:Int)])) .und
     simp only[reH,reS,show(100:Int)+60*((0:Nat):Int)=100 from rfl]at lp
     have nx:(nn:Int)*60=60*nn:=by omega
     simp only[nx]at un
     generalize fuK m fl q 0=h0 at*
     generalize fuK m fl q (nn+2)=h2 at*
     clear n2 n3 an nx f2
     obtain⟨aP,roads⟩:=m
     simp only[aU,xI,tL,List.map_cons,List.map_nil]at*
     simp(disch:=omega)only[go_sem,K.cy,↓reduceIte,lo,ro,mo,fo,vo,st,un,lp,aw,reduceAdd,reduceSub]
   · rw[if_neg an]at un
     generalize fuK m fl q 0=h0 at*
     clear an f2
     obtain⟨aP,roads⟩:=m
     simp only[xI,tL,List.map_cons,List.map_nil]at*
     simp(disch:=omega)only[go_sem,K.cy,↓reduceIte,lo,ro,mo,fo,vo,st,un,aw,reduceAdd,reduceSub]
 · simp only[c,decide_false]at lo
   simp(disch:=omega)only[go_sem,K.cy,↓reduceIte,lo,aw,reduceAdd,reduceSub]
end Go.Ev
namespace Go.Ev.K
open Go.Ev
def xK:C:= (.its [u (.bin .lss v13 v12)] [] 0 .skip (.exit 1) (.seq (.blk 2 (q [a 1 v11 v13,g l0,x 8 l0] [] (q [h 2 v4,m v8,m v3,u (.ca N.gr 0 [] [.l 2,.l 1,.l 0]),m l0,u (.ex l0 0),u (.ex l1 1),w 9 (.al [z0,.nil] []),u (.st l0 l2 2 []),x 10 l2] [] (.seq (.ite [m v10,u (.bin .neq l0 (.i 0))] [] 0 (q [u (.bd [.nil] []),m v10,u (.st v5 l1 1 []),x 6 l1] [] .ret) .skip) (.reg [f 1 v7,g l0,h 2 v9,u (.bs [.l 0] 2),u (.app l2 l0 true 2),f 1 v7,u (.st l0 l1 1 [])] []))))) (.reg [u (.bin .add v13 (.i 1)),x 13 l0] [])))
def yM:C:= .loop true [0,1,2,6,8,9,10] K.xK
def iy:Fn:= { av:=4,vars:=[0,1,2,3,4,8,9,10,12,13,14,41,42,43],body:=(q [w 4 (.bx v0 2),w 5 (.al [.nil] []),x 6 (.i 0)] [] (.seq (.blk 0 (.ite [h 2 v4,u (.ca N.bL 0 [] [.l 0]),u (.un .not l0),m l0,e 0 false v1,y 1 false (.ln l0),e 2 false v2,y 3 false (.ln l0),y 4 false (.bin .neq l2 l0),u (.pk l5 (.b true) l0),m l0,e 0 false v1,y 1 false (.ln l0),y 2 false (.ca N.aS 0 [] [.l 0,.i 1,.i 12]),y 3 false (.un .not l0),u (.pk l4 (.b true) l0),m l0] [] 0 (q [u (.bd [.nil] []),u (.st v5 l0 1 []),x 6 (.i 6)] [] .ret) (.ite [m v1,u (.ca N.ff 0 [] [.l 0]),u (.un .not l0),m l0] [] 0 (q [u (.bd [.nil] []),u (.st v5 l0 1 []),x 6 (.i 41)] [] .ret) .skip))) (q [m v1,u (.ca N.ae 0 [] [.l 0]),u (.bd [.nil,.nil] [(0,1,.l 0)]),w 7 (.al [.nil,.nil] [(1,2)]),u (.st l0 l1 2 [(1,2)])] [] (.seq (q [x 11 v2,w 12 (.ln l0),x 13 (.i 0)] [] (.blk 1 K.yM)) (q [h 2 v7,u (.bs [.l 0] 2),u (.bd [.nil] [(0,1,.l 0)]),u (.st v5 l0 1 []),x 6 (.i 0)] [] .ret))))),res:=[(5,some (1,true)),(6,none)]}
end Go.Ev.K
namespace Go.Ev
class R1 [Lib]:Prop where
 sO:Lib.fs N.iy=some K.iy
namespace K
variable [Lib] [R1]
theorem sO:Lib.fs N.iy=some K.iy:=R1.sO
end K
end Go.Ev
namespace Go.Ev.K
open Go.Ev
def xL:C:= (.its [u (.bin .lss v7 v6)] [] 0 .skip (.exit 0) (.seq (.blk 1 (q [a 2 v5 v7,h 2 l0,w 4 (.al [z0,.nil] []),u (.st l0 l1 2 [])] [] (.reg [f 1 v3,g l0,f 0 v4,g l0,f 1 v4,g l0,u (.ca N.ae 0 [] [.l 0]),u (.bd [z0,.nil] [(0,1,.l 3),(1,1,.l 0)]),u (.bs [.l 0] 2),u (.app l7 l0 true 2),f 1 v3,u (.st l0 l1 1 [])] [(1,7),(1,9),(3,7)]))) (.reg [u (.bin .add v7 (.i 1)),x 7 l0] [])))
def yN:C:= .loop true [0,1,4] K.xL
def iz:Fn:= { av:=1,vars:=[0,1,2,3,5,11,12,13],body:=(q [w 1 (.bx v0 2),w 2 (.al [.nil,.nil] [])] [] (q [f 0 v1,g l0,u (.ca N.ae 0 [] [.l 0]),u (.bd [.nil,.nil] [(0,1,.l 0)]),w 3 (.al [.nil,.nil] [(1,2)]),u (.st l0 l1 2 [(1,2)])] [] (.seq (q [f 1 v1,w 5 (.ld l0 1 false),w 6 (.ln l0),x 7 (.i 0)] [] (.blk 0 K.yN)) (q [h 2 v3,u (.st v2 l0 2 [])] [] .ret)))),res:=[(2,some (2,true))]}
def xM:C:= (.its [u (.bin .lss v11 v10)] [] 0 .skip (.exit 2) (.seq (.blk 3 (q [m v11,x 6 l0] [] (.reg [m v3,m v5,u (.bin .sub l0 (.i 1)),a 2 l2 l0,f 1 l0,g l0,m v6,m v3,m v5,u (.bin .sub l0 (.i 1)),a 2 l2 l0,f 1 l0,g l0,m v6,a 2 l1 l0,h 2 l0,f 1 v4,g l0,m v6,a 2 l1 l0,h 2 l0,u (.ca N.iq 0 [] [.l 5,.l 0]),m l0,u (.ex l0 0),u (.ex l1 1),a 2 (.l 19) (.l 18),u (.st l0 l2 2 [])] [(3,22),(5,22)]))) (.reg [u (.bin .add v11 (.i 1)),x 11 l0] [])))
def yO:C:= .loop false [0,1,2,6] K.xM
def xN:C:= (.its [u (.bin .lss v9 v8)] [] 0 .skip (.exit 0) (.seq (.blk 1 (q [a 2 v7 v9,h 2 l0,w 4 (.al [.nil,.nil] []),u (.st l0 l1 2 [])] [] (.seq (q [m v3,u (.ln l0),x 5 l0] [] (.ite [m v5,u (.bin .gtr l0 (.i 0)),m l0,e 0 true v3,e 1 true v5,y 2 true (.bin .sub l0 (.i 1)),y 3 true (.ia l2 l0 2),y 4 true (.fa l0 0),i 5 true l0,y 6 true (.fa v4 0),i 7 true l0,y 8 true (.ca N.bw 0 [] [.l 2,.l 0]),u (.pk l9 l0 (.b false))] [] 0 (.seq (q [f 1 v4,g l0,w 10 (.ln l0),x 11 (.i 0)] [] (.blk 2 K.yO)) (.exit 1)) .skip)) (.reg [m v3,h 2 v4,u (.ca N.dw 1 [] [.l 0]),u (.bsr [.l 0] 2),u (.app l3 l0 false 2),x 3 l0] [])))) (.reg [u (.bin .add v9 (.i 1)),x 9 l0] [])))
def yP:C:= .loop false [0,1,2,4,5,6,10,11] K.xN
def iA:Fn:= { av:=1,vars:=[0,2,3,4,6,7,8,12,13,14,35,36],body:=(q [w 1 (.mv (.c (.nil)))] [] (q [m v0,u (.ca N.aW 0 [] [.l 0]),u (.ca N.aV 0 [] [.l 0,.c (.fn N.fh [])]),x 2 l0] [] (q [w 3 (.nw 2)] [] (.seq (q [x 7 v2,w 8 (.ln l0),x 9 (.i 0)] [] (.blk 0 K.yP)) (q [m v3,x 1 l0] [] .ret))))),res:=[(1,none)]}
def aV:Fn:= { av:=2,vars:=[0,1,4,5],body:=(q [w 2 (.mv (.c (.nil)))] [] (q [m v0,u (.ca N.bA 1 [] [.l 0]),x 3 l0] [] (q [m v3,m v1,u (.ca N.aI 0 [0] [.l 1,.l 0])] [] (q [m v3,x 2 l0] [] .ret)))),res:=[(2,none)]}
def aW:Fn:= { av:=1,vars:=[0,1,2],body:=(q [w 1 (.bx v0 1),w 2 (.mv (.c (.und)))] [] (q [u (.mf N.aE [.v 1]),x 2 l0] [] .ret)),res:=[(2,none)]}
def fh:Fn:= { av:=2,vars:=[0,1,2,3,4],body:= .fail,res:=[(4,none)]}
def bA:Fn:= { av:=1,vars:=[2],body:= .fail,res:=[(0,none)],prim:=[3,N.aE]}
def aI:Fn:= { av:=2,vars:=[0,1],body:=(.reg [m v0,m v0,u (.ln l0),m v1,u (.ca N.a7 0 [0] [.l 3,.l 1,.l 0])] []),res:=[]}
def aE:Fn:= { av:=2,vars:=[0,1,4,5,6,7],body:= .fail,res:=[]}
def jP:C:= (.seq (.ite [m v5,m v1,u (.bin .leq l1 l0)] [] 0 .skip (.exit 0)) (.blk 1 (q [m v0,m v4,m v5,m v2,u (.ca N.aL 0 [0] [.l 3,.l 2,.l 1,.l 0])] [] (q [m v5,x 4 l0] [] (.reg [m v5,m v3,u (.bin .add l1 l0),x 5 l0] [])))))
def kd:C:= .loop true [6] K.jP
def jQ:C:= (.seq (.ite [m v5,m v1,u (.bin .leq l1 l0)] [] 0 .skip (.exit 4)) (.blk 5 (q [m v0,m v4,m v4,m v3,u (.bin .add l1 l0),m v5,m v2,u (.ca N.aT 0 [0] [.l 6,.l 5,.l 2,.l 1,.l 0])] [] (q [m v5,x 4 l0] [] (.reg [m v5,m v3,u (.bin .mul (.i 2) l0),u (.bin .add l2 l0),x 5 l0] [])))))
def ke:C:= .loop true [6] K.jQ
def jR:C:= (.seq (.ite [m v3,m v1,u (.bin .lss l1 l0)] [] 0 .skip (.exit 2)) (.blk 3 (q [m v3,u (.bin .mul (.i 2) l0),x 4 (.i 0),x 5 l1] [] (.seq (.blk 4 K.ke) (.seq (q [m v4,m v3,u (.bin .add l1 l0),x 6 l0] [] (.ite [m v6,m v1,u (.bin .lss l1 l0)] [] 0 (.reg [m v0,m v4,m v6,m v1,m v2,u (.ca N.aT 0 [0] [.l 4,.l 3,.l 2,.l 1,.l 0])] []) .skip)) (.reg [m v3,u (.bin .mul l0 (.i 2)),x 3 l0] []))))))
def kf:C:= .loop true [4,5,6] K.jR
def a7:Fn:= { av:=3,vars:=[0,1,2,6,7,8,9],body:=(q [x 3 (.i 20)] [] (q [m v3,x 4 (.i 0),x 5 l1] [] (.seq (.blk 0 K.kd) (q [m v0,m v4,m v1,m v2,u (.ca N.aL 0 [0] [.l 3,.l 2,.l 1,.l 0])] [] (.blk 2 K.kf))))),res:=[]}
def gR:C:= (.seq (.ite [m v5,m v1,u (.bin .gtr l1 l0),m l0,e 0 true v3,e 1 true v0,e 2 true v5,y 3 true (.ia l1 l0 2),y 4 true (.ld l0 2 true),e 5 true v0,e 6 true v5,y 7 true (.bin .sub l0 (.i 1)),y 8 true (.ia l2 l0 2),y 9 true (.ld l0 2 true),y 10 true (.cw l9 0 [] [.l 5,.l 0]),y 11 true (.bin .lss l0 (.i 0)),u (.pk (.l 12) l0 (.b false))] [] 0 .skip (.exit 2)) (.seq (.blk 3 (.reg [m v0,m v5,m v0,m v5,u (.bin .sub l0 (.i 1)),m v0,m v5,u (.bin .sub l0 (.i 1)),a 2 l2 l0,h 2 l0,m v0,m v5,a 2 l1 l0,h 2 l0,a 2 (.l 13) (.l 12),u (.st l0 l5 2 []),a 2 (.l 13) l11,u (.st l0 l3 2 [])] [])) (.reg [m v5,u (.bin .sub l0 (.i 1)),x 5 l0] [])))
def gZ:C:= .loop true [] K.gR
def gS:C:= (.seq (.ite [m v4,m v2,u (.bin .lss l1 l0)] [] 0 .skip (.exit 0)) (.seq (.blk 1 (q [m v4,x 5 l0] [] (.blk 2 K.gZ))) (.reg [m v4,u (.bin .add l0 (.i 1)),x 4 l0] [])))
def hT:C:= .loop true [5] K.gS
def aL:Fn:= { av:=4,vars:=[0,1,2,3,8,9],body:=(q [m v1,u (.bin .add l0 (.i 1)),x 4 l0] [] (.blk 0 K.hT)),res:=[]}
def aT:Fn:= { av:=5,vars:=[0,1,2,3,4,10,11,12,13,14,15,16,17,18,19,20,21,22,23,24],body:= .fail,res:=[]}
def sP:C:= (.its [u (.bin .lss v7 v6)] [] 0 .skip (.exit 0) (.seq (.blk 1 (q [a 2 v5 v7,h 2 l0,w 4 (.al [z0,.nil] []),u (.st l0 l1 2 [])] [] (.reg [f 1 v3,g l0,f 0 v4,g l0,f 1 v4,g l0,u (.ca N.ae 1 [] [.l 0]),u (.bd [z0,.nil] [(0,1,.l 3),(1,1,.l 0)]),u (.bs [.l 0] 2),u (.app l7 l0 true 2),f 1 v3,u (.st l0 l1 1 [])] [(1,7),(1,9),(3,7)]))) (.reg [u (.bin .add v7 (.i 1)),x 7 l0] [])))
def tW:C:= .loop true [0,1,4] K.sP
def dw:Fn:= { av:=1,vars:=[0,1,2,3,5,11,12,13],body:=(q [w 1 (.bx v0 2),w 2 (.al [.nil,.nil] [])] [] (q [f 0 v1,g l0,u (.ca N.ae 1 [] [.l 0]),u (.bd [.nil,.nil] [(0,1,.l 0)]),w 3 (.al [.nil,.nil] [(1,2)]),u (.st l0 l1 2 [(1,2)])] [] (.seq (q [f 1 v1,w 5 (.ld l0 1 false),w 6 (.ln l0),x 7 (.i 0)] [] (.blk 0 K.tW)) (q [h 2 v3,u (.st v2 l0 2 [])] [] .ret)))),res:=[(2,some (2,true))]}
end Go.Ev.K
namespace Go.Ev
class sQ [Lib]:Prop where
 sR:Lib.fs N.iz=some K.iz
 sT:Lib.fs N.iA=some K.iA
 eI:Lib.fs N.aV=some K.aV
 eJ:Lib.fs N.aW=some K.aW
 pF:Lib.fs N.fh=some K.fh
 iY:Lib.fs N.bA=some K.bA
 de:Lib.fs N.aI=some K.aI
 dW:Lib.fs N.aE=some K.aE
 fO:Lib.fs N.a7=some K.a7
 dN:Lib.fs N.aL=some K.aL
 eO:Lib.fs N.aT=some K.aT
 ow:Lib.fs N.dw=some K.dw
namespace K
variable [Lib] [sQ]
theorem sR:Lib.fs N.iz=some K.iz:=sQ.sR
theorem sT:Lib.fs N.iA=some K.iA:=sQ.sT
theorem eI:Lib.fs N.aV=some K.aV:=sQ.eI
theorem eJ:Lib.fs N.aW=some K.aW:=sQ.eJ
theorem pF:Lib.fs N.fh=some K.fh:=sQ.pF
theorem iY:Lib.fs N.bA=some K.bA:=sQ.iY
theorem de:Lib.fs N.aI=some K.aI:=sQ.de
theorem dW:Lib.fs N.aE=some K.aE:=sQ.dW
theorem fO:Lib.fs N.a7=some K.a7:=sQ.fO
theorem dN:Lib.fs N.aL=some K.aL:=sQ.dN
theorem eO:Lib.fs N.aT=some K.aT:=sQ.eO
theorem ow:Lib.fs N.dw=some K.dw:=sQ.ow
end K
end Go.Ev
namespace Go.Ev.K
open Go.Ev
def AT:C:= (.its [u (.bin .lss (.v 24) v23)] [] 0 .skip (.exit 2) (.seq (.blk 3 (q [m (.v 24),a 2 v22 (.v 24),h 2 l0,w 16 (.al [z0,.nil] []),x 15 l3,u (.st l1 l2 2 [])] [] (q [h 2 v9,h 2 v16,g v6,u (.ca N.kU 0 [] [.l 2,.l 1,.l 0]),m l0,u (.ex l0 0),u (.ex l1 1),w 17 (.al [z0,.nil] []),u (.st l0 l2 2 []),x 18 l2] [] (.seq (.ite [m v18,u (.bin .neq l0 (.i 0))] [] 0 (q [h 1 v5,m v18,u (.st v7 l1 1 []),x 8 l1] [] .ret) .skip) (.reg [f 1 v14,g l0,m v15,h 2 v17,a 2 l2 l1,u (.st l0 l1 2 [])] []))))) (.reg [u (.bin .add (.v 24) (.i 1)),x 24 l0] [])))
def Cv:C:= .loop true [0,1,2,3,4,8,10,11,13,15,16,17,18] K.AT
def AU:C:= (.its [u (.bin .lss v21 v20)] [] 0 .skip (.exit 0) (.seq (.blk 1 (q [a 2 v19 v21,h 2 l0,w 13 (.al [.nil,.nil] []),u (.st l0 l1 2 [])] [] (q [h 2 v13,u (.ca N.dw 1 [] [.l 0]),w 14 (.al [.nil,.nil] []),u (.st l0 l1 2 [])] [] (.seq (q [f 1 v13,w 22 (.ld l0 1 false),w 23 (.ln l0),x 24 (.i 0)] [] (.blk 2 K.Cv)) (.reg [m v12,h 2 v14,u (.bs [.l 0] 2),u (.app l2 l0 true 2),x 12 l0] []))))) (.reg [u (.bin .add v21 (.i 1)),x 21 l0] [])))
def Cw:C:= .loop true [0,1,2,3,4,8,10,11,13,14,15,16,17,18,22,23,24] K.AU
def kT:Fn:= { av:=4,vars:=[0,1,2,3,4,5,7,8,9,10,11,12,13,15,16,17,18,19,20,47,48,49,56,57,58],body:=(q [w 4 (.bx v0 2),w 5 (.bx v1 1),w 6 (.bx v3 1),w 7 (.al [.nil] []),x 8 (.i 0)] [] (.seq (.ite [h 2 v4,h 1 v5,u (.ca N.iw 0 [] [.l 1,.l 0]),u (.un .not l0)] [] 0 (q [h 1 v5,u (.st v7 l0 1 []),x 8 (.i 6)] [] .ret) .skip) (q [h 2 v4,m v2,u (.ca N.iB 0 [] [.l 1,.l 0]),m l0,u (.ex l0 0),u (.ex l1 1),w 9 (.al [.nil,.nil] []),u (.st l0 l2 2 []),x 10 l2] [] (.seq (.ite [m v10,u (.bin .neq l0 (.i 0))] [] 0 (q [h 1 v5,m v10,u (.st v7 l1 1 []),x 8 l1] [] .ret) .skip) (q [u (.mf N.iC [.v 6]),x 11 l0] [] (.seq (.ite [g v6,u (.bin .gtr l0 (.i 2147483648)),m l0,y 0 false (.fa v5 0),i 1 false l0,e 2 false v11,y 3 false (.ca N.aB 0 [] [.l 1,.l 0]),u (.pk l4 (.b true) l0)] [] 0 (q [h 1 v5,u (.st v7 l0 1 []),x 8 (.i 8)] [] .ret) .skip) (q [w 12 (.nw 2)] [] (.seq (q [f 0 v5,w 19 (.ld l0 1 false),w 20 (.ln l0),x 21 (.i 0)] [] (.blk 0 K.Cw)) (q [m v12,u (.ca N.iA 0 [] [.l 0]),u (.bd [.nil] [(0,1,.l 0)]),u (.st v7 l0 1 []),x 8 (.i 0)] [] .ret))))))))),res:=[(7,some (1,true)),(8,none)]}
def xO:C:= (.its [u (.bin .lss v9 v8)] [] 0 .skip (.exit 1) (.seq (.blk 2 (q [a 1 v7 v9,g l0,x 6 l0] [] (.reg [f 1 v5,g l0,m v6,a 10 l1 l0,f 4 l0,u (.st l0 (.b false) 1 [])] []))) (.reg [u (.bin .add v9 (.i 1)),x 9 l0] [])))
def yQ:C:= .loop true [0,1,2,4,6] K.xO
def iB:Fn:= { av:=2,vars:=[0,1,2,4,5,6,8,30,31,32],body:=(q [w 2 (.bx v0 2),w 3 (.al [.nil,.nil] []),x 4 (.i 0)] [] (.seq (.blk 0 (.ite [h 2 v2,u (.ca N.bL 0 [] [.l 0]),u (.un .not l0),m l0] [] 0 (q [u (.bd [.nil,.nil] []),u (.st v3 l0 2 []),x 4 (.i 6)] [] .ret) (.ite [m v1,f 1 v2,g l0,u (.ln l0),u (.bin .sub l0 (.i 1)),u (.ca N.bl 0 [] [.l 4,.i 0,.l 0]),u (.un .not l0),m l0] [] 0 (q [u (.bd [.nil,.nil] []),u (.st v3 l0 2 []),x 4 (.i 4)] [] .ret) .skip))) (q [w 5 (.al [.nil,.nil] []),f 0 v2,g l0,u (.ca N.aH 0 [] [.l 0]),f 1 v2,g l0,u (.ca N.aM 1 [] [.l 0]),u (.bd [.nil,.nil] [(0,1,.l 3),(1,1,.l 0)]),u (.st l7 l0 2 [])] [(0,4),(0,7),(5,1)] (.seq (q [x 7 v1,w 8 (.ln l0),x 9 (.i 0)] [] (.blk 1 K.yQ)) (q [h 2 v5,u (.st v3 l0 2 []),x 4 (.i 0)] [] .ret))))),res:=[(3,some (2,true)),(4,none)]}
def iC:Fn:= { av:=2,vars:=[0,1,2,3],body:=(q [w 2 (.bx v0 2),x 3 (.b false)] [] (q [f 1 v2,g l0,u (.mf N.fk [.v 1]),u (.ca N.ak 0 [] [.l 1,.l 0]),x 3 l0] [] .ret)),res:=[(3,none)]}
def fk:Fn:= { av:=2,vars:=[0,1,2,3],body:=(q [w 2 (.bx v0 2),x 3 (.b false)] [] (q [g v1,f 0 v2,g l0,u (.bin .lss l2 l0),x 3 l0] [] .ret)),res:=[(3,none)]}
def AV:C:= (.its [u (.bin .lss v11 v10)] [] 0 .skip (.exit 0) (.seq (.blk 1 (q [a 1 v9 v11,g l0,x 8 l0] [] (.reg [m v7,m v8,f 1 v4,g l0,m v8,a 1 l1 l0,g l0,a 1 l6 l5,u (.st l0 l1 1 [])] []))) (.reg [u (.bin .add v11 (.i 1)),x 11 l0] [])))
def Cx:C:= .loop true [0,1,6,8] K.AV
def kU:Fn:= { av:=3,vars:=[0,1,2,3,4,6,7,8,10,18,19,20],body:=(q [w 3 (.bx v0 2),w 4 (.bx v1 2),w 5 (.al [z0,.nil] []),x 6 (.i 0)] [] (q [u (.bs [.i 1099511627776] 1),f 1 v4,g l0,u (.ln l0),u (.ca N.bm 1 [] [.l 3,.l 0]),x 7 l0] [] (.seq (q [h 2 v4,m v2,w 9 (.ca N.cZ 0 [] [.l 1,.l 0]),w 10 (.ln l0),x 11 (.i 0)] [] (.blk 0 K.Cx)) (q [h 2 v3,f 0 v4,g l0,m v7,u (.bd [z0,.nil] [(0,1,.l 1),(1,1,.l 0)]),m v2,u (.ca N.gw 0 [] [.l 5,.l 1,.l 0]),u (.ex l0 0),u (.ex l1 1),u (.st v5 l1 2 []),x 6 l1] [] .ret)))),res:=[(5,some (2,true)),(6,none)]}
end Go.Ev.K
namespace Go.Ev
class Ef [Lib]:Prop where
 xP:Lib.fs N.kT=some K.kT
 sU:Lib.fs N.iB=some K.iB
 sV:Lib.fs N.iC=some K.iC
 pG:Lib.fs N.fk=some K.fk
 xQ:Lib.fs N.kU=some K.kU
namespace K
variable [Lib] [Ef]
theorem xP:Lib.fs N.kT=some K.kT:=Ef.xP
theorem sU:Lib.fs N.iB=some K.iB:=Ef.sU
theorem sV:Lib.fs N.iC=some K.iC:=Ef.sV
theorem pG:Lib.fs N.fk=some K.fk:=Ef.pG
theorem xQ:Lib.fs N.kU=some K.kU:=Ef.xQ
end K
end Go.Ev
namespace Go.Ev.K
open Go.Ev
def aH:Fn:= { av:=1,vars:=[0,2],body:=(q [w 1 (.mv (.c (.nil)))] [] (.itk [m v0,u (.eqk (.sl) false l0 (.c (.nil)))] [] 0 (q [w 1 (.nw 2)] [] .ret) .skip (q [u (.bsr [] 2),m v0,u (.app l1 l0 false 2),x 1 l0] [] .ret))),res:=[(1,none)]}
def aM:Fn:= { av:=1,vars:=[0,2],body:=(q [w 1 (.mv (.c (.nil)))] [] (.itk [m v0,u (.eqk (.sl) false l0 (.c (.nil)))] [] 0 (q [w 1 (.nw 10)] [] .ret) .skip (q [u (.bsr [] 10),m v0,u (.app l1 l0 false 10),x 1 l0] [] .ret))),res:=[(1,none)]}
end Go.Ev.K
namespace Go.Ev
class Mg [Lib]:Prop where
 eP:Lib.fs N.aH=some K.aH
 fP:Lib.fs N.aM=some K.aM
namespace K
variable [Lib] [Mg]
theorem eP:Lib.fs N.aH=some K.aH:=Mg.eP
theorem fP:Lib.fs N.aM=some K.aM:=Mg.fP
end K
end Go.Ev
namespace Go.Ev.K
open Go.Ev
def xR:C:= (.its [u (.bin .lss v13 v12)] [] 0 .skip (.exit 1) (.seq (.blk 2 (q [a 1 v11 v13,g l0,x 10 l0] [] (.reg [f 3 v9,g l0,m v10,u (.bd [z0,z0,z0] [(0,1,.l 0),(1,1,.i (-1))]),u (.bs [.l 0] 3),u (.app l3 l0 true 3),f 3 v9,u (.st l0 l1 1 [])] []))) (.reg [u (.bin .add v13 (.i 1)),x 13 l0] [])))
def yR:C:= .loop true [0,2,3,4,5,7,10,14,15] K.xR
def xS:C:= (.its [u (.bin .lss v15 v14)] [] 0 .skip (.exit 3) (.seq (.blk 4 (.reg [f 6 v9,g l0,u (.bs [.i (-1)] 1),u (.app l1 l0 true 1),f 7 v9,g l0,u (.bs [.i (-1)] 1),u (.app l1 l0 true 1),f 8 v9,g l0,m v8,u (.mkt l0 (.int .i64 (0)) 1),u (.bs [.l 0] 1),u (.app l3 l0 true 1),f 6 v9,u (.st l0 l11 1 []),f 7 v9,u (.st l0 l9 1 []),f 8 v9,u (.st l0 l5 1 [])] [(2,2),(5,0),(6,0),(9,0),(9,4),(11,0),(11,4),(12,0),(12,4)])) (.reg [u (.bin .add v15 (.i 1)),x 15 l0] [])))
def yS:C:= .loop true [0,1,2,3,4,5,7,10,11,12,13] K.xS
def iD:Fn:= { av:=5,vars:=[0,1,2,3,4,5,10,11,12,13,15,55,56,57,70,71],body:=(q [w 5 (.bx v0 2),w 6 (.al [.nil,.nil,z0,.nil,.nil,.nil,.nil,.nil,.nil] []),x 7 (.i 0)] [] (q [m v2,u (.ln l0),x 8 l0] [] (.seq (.blk 0 (.ite [h 2 v5,m v1,u (.ca N.c7 0 [] [.l 1,.l 0]),u (.un .not l0),m l0,e 0 false v3,y 1 false (.ln l0),e 2 false v8,y 3 false (.bin .neq l1 l0),u (.pk l4 (.b true) l0),m l0,e 0 false v8,y 1 false (.ca N.aS 0 [] [.l 0,.i 1,.i 12]),y 2 false (.un .not l0),u (.pk l3 (.b true) l0),m l0] [] 0 (q [u (.bd [.nil,.nil,z0,.nil,.nil,.nil,.nil,.nil,.nil] []),u (.st v6 l0 9 []),x 7 (.i 6)] [] .ret) (.ite [m v2,u (.mf N.fm [.v 5]),u (.ca N.ai 0 [] [.l 1,.l 0]),m l0] [] 0 (q [u (.bd [.nil,.nil,z0,.nil,.nil,.nil,.nil,.nil,.nil] []),u (.st v6 l0 9 []),x 7 (.i 3)] [] .ret) (.ite [m v3,u (.ca N.fp 0 [] [.l 0]),u (.un .not l0),m l0] [] 0 (q [u (.bd [.nil,.nil,z0,.nil,.nil,.nil,.nil,.nil,.nil] []),u (.st v6 l0 9 []),x 7 (.i 41)] [] .ret) (.ite [m v4,u (.ca N.aS 0 [] [.l 0,.i 0,.i 2147483648]),u (.un .not l0),m l0] [] 0 (q [u (.bd [.nil,.nil,z0,.nil,.nil,.nil,.nil,.nil,.nil] []),u (.st v6 l0 9 []),x 7 (.i 8)] [] .ret) .skip))))) (q [h 2 v5,m v4,m v3,m v1,u (.bd [.nil,.nil,z0,.nil,.nil,.nil,.nil,.nil,.nil] [(0,2,.l 3),(2,1,.l 2),(4,1,.l 1),(5,1,.l 0)]),w 9 (.al [.nil,.nil,z0,.nil,.nil,.nil,.nil,.nil,.nil] [(3,3),(6,1),(7,1),(8,1)]),u (.st l0 l1 9 [(3,3),(6,1),(7,1),(8,1)])] [] (.seq (q [x 11 v2,w 12 (.ln l0),x 13 (.i 0)] [] (.blk 1 K.yR)) (.seq (q [m v1,w 14 (.ln l0),x 15 (.i 0)] [] (.blk 3 K.yS)) (q [h 9 v9,u (.ca N.gx 0 [] [.l 0]),u (.st v6 l0 9 []),x 7 (.i 0)] [] .ret))))))),res:=[(6,some (9,true)),(7,none)]}
def iE:Fn:= { av:=4,vars:=[0,1,2,3,4,8,9,10,11,12,13],body:= .fail,res:=[(5,some (9,true)),(6,none)]}
def yT:C:= (.its [u (.bin .lss v10 v9)] [] 0 .skip (.exit 1) (.seq (.blk 2 (q [m v10,a 3 v8 v10,h 3 l0,w 7 (.al [z0,z0,z0] []),x 6 l3,u (.st l1 l2 3 [])] [] (.seq (.ite [f 1 v7,g l0,u (.bin .lss l0 (.i 0))] [] 0 (.exit 2) .skip) (.seq (q [f 2 v7,g l0,m v1,u (.bin .sub l1 l0),f 2 v7,u (.st l0 l1 1 [])] [] (.ite [f 2 v7,g l0,u (.bin .leq l0 (.i 0))] [] 0 (.reg [f 0 v2,h 2 l0,f 1 v7,g l0,f 0 v7,g l0,u (.ca N.jJ 0 [] [.l 4,.l 2,.l 0]),u (.bd [z0,z0,z0] [(0,1,.l 0),(1,1,.i (-1))]),u (.st v7 l0 3 [])] []) .skip)) (.reg [f 3 v5,g l0,m v6,h 3 v7,a 3 l2 l1,u (.st l0 l1 3 [])] []))))) (.reg [u (.bin .add v10 (.i 1)),x 10 l0] [])))
def AX:C:= .loop true [0,4,6,7] K.yT
def jI:Fn:= { av:=2,vars:=[0,1,2,4,5,6,7,8,34,35,36],body:=(q [w 2 (.bx v0 9),w 3 (.al [.nil,.nil,z0,.nil,.nil,.nil,.nil,.nil,.nil] []),x 4 (.i 0)] [] (.seq (.blk 0 (.ite [h 9 v2,u (.ca N.gD 0 [] [.l 0]),u (.un .not l0),m l0] [] 0 (q [h 9 v2,u (.st v3 l0 9 []),x 4 (.i 6)] [] .ret) (.ite [m v1,u (.ca N.aS 0 [] [.l 0,.i 0,.i 3600]),u (.un .not l0),m l0] [] 0 (q [h 9 v2,u (.st v3 l0 9 []),x 4 (.i 1)] [] .ret) (.ite [f 2 v2,g l0,m v1,u (.bin .add l1 l0),u (.bin .gtr l0 (.i 2147483648)),m l0] [] 0 (q [h 9 v2,u (.st v3 l0 9 []),x 4 (.i 8)] [] .ret) .skip)))) (q [h 9 v2,u (.ca N.dI 1 [] [.l 0]),w 5 (.al [.nil,.nil,z0,.nil,.nil,.nil,.nil,.nil,.nil] []),u (.st l0 l1 9 [])] [] (q [f 2 v5,g l0,m v1,u (.bin .add l1 l0),f 2 v5,u (.st l0 l1 1 [])] [] (.seq (q [f 3 v5,w 8 (.ld l0 1 false),w 9 (.ln l0),x 10 (.i 0)] [] (.blk 1 K.AX)) (q [h 9 v5,u (.st v3 l0 9 []),x 4 (.i 0)] [] .ret)))))),res:=[(3,some (9,true)),(4,none)]}
end Go.Ev.K
namespace Go.Ev
class JH [Lib]:Prop where
 sW:Lib.fs N.iD=some K.iD
 sX:Lib.fs N.iE=some K.iE
 vg:Lib.fs N.jI=some K.jI
namespace K
variable [Lib] [JH]
theorem sW:Lib.fs N.iD=some K.iD:=JH.sW
theorem sX:Lib.fs N.iE=some K.iE:=JH.sX
theorem vg:Lib.fs N.jI=some K.jI:=JH.vg
end K
end Go.Ev
namespace Go.Ev.K
open Go.Ev
def c7:Fn:= { av:=2,vars:=[0,1,2,4,5],body:=(q [w 2 (.bx v0 2),x 3 (.b false)] [] (q [u (.mf N.cI [.v 2]),x 4 l0] [] (q [h 2 v2,u (.ca N.bL 0 [] [.l 0]),m l0,e 0 true v1,y 1 true (.ln l0),y 2 true (.bin .leq l0 (.i 32)),u (.pk l3 l0 (.b false)),m l0,e 0 true v1,e 1 true v4,y 2 true (.ca N.aC 0 [] [.l 1,.l 0]),y 3 true (.un .not l0),u (.pk l4 l0 (.b false)),x 3 l0] [] .ret))),res:=[(3,none)]}
def fm:Fn:= { av:=2,vars:=[0,1,3],body:=(q [x 2 (.b false)] [] (q [m v0,f 0 v1,g l0,u (.ln l0),u (.bin .sub l0 (.i 1)),u (.ca N.aS 0 [] [.l 4,.i 0,.l 0]),u (.un .not l0),x 2 l0] [] .ret)),res:=[(2,none)]}
def fp:Fn:= { av:=1,vars:=[0,2],body:=(q [x 1 (.b false)] [] (q [m v0,u (.ca N.bn 0 [] [.l 0]),u (.ca N.bJ 0 [] [.l 0]),u (.ca N.bl 0 [] [.l 0,.i 1,.i 65535]),x 1 l0] [] .ret)),res:=[(1,none)]}
def vI:C:= (.its [u (.bin .lss v8 v7)] [] 0 .skip (.exit 0) (.seq (.blk 1 (q [a 4 v6 v8,h 4 l0,w 4 (.al [.nil,z0,z0,z0] []),u (.st l0 l1 4 [])] [] (q [f 0 v4,g l0,u (.ca N.ae 0 [] [.l 0]),f 0 v4,u (.st l0 l1 1 [])] [] (.reg [f 5 v3,g l0,h 4 v4,u (.bs [.l 0] 4),u (.app l2 l0 true 4),f 5 v3,u (.st l0 l1 1 [])] [])))) (.reg [u (.bin .add v8 (.i 1)),x 8 l0] [])))
def xT:C:= .loop true [0,4,5,9,10,11] K.vI
def vJ:C:= (.its [u (.bin .lss v11 v10)] [] 0 .skip (.exit 2) (.seq (.blk 3 (q [a 1 v9 v11,g l0,x 5 l0] [] (.reg [f 8 v3,g l0,m v5,u (.ca N.ae 0 [] [.l 0]),u (.bs [.l 0] 1),u (.app l3 l0 true 1),f 8 v3,u (.st l0 l1 1 [])] [(1,4),(1,5)]))) (.reg [u (.bin .add v11 (.i 1)),x 11 l0] [])))
def xU:C:= .loop true [0,1,4,5,6,7,8] K.vJ
def gx:Fn:= { av:=1,vars:=[0,1,2,3,5,7,29,30,31,56,57,58],body:=(q [w 1 (.bx v0 9),w 2 (.al [.nil,.nil,z0,.nil,.nil,.nil,.nil,.nil,.nil] [])] [] (q [h 9 v1,w 3 (.al [.nil,.nil,z0,.nil,.nil,.nil,.nil,.nil,.nil] [(5,4),(8,1)]),u (.st l0 l1 9 [])] [] (q [f 0 v1,f 0 l0,g l0,u (.ca N.aH 0 [] [.l 0]),f 0 v1,f 1 l0,g l0,u (.ca N.aM 0 [] [.l 0]),u (.bd [.nil,.nil] [(0,1,.l 4),(1,1,.l 0)]),f 0 v3,u (.st l0 l1 2 [])] [(6,0)] (q [f 3 v1,g l0,u (.ca N.aO 0 [] [.l 0]),f 4 v1,g l0,u (.ca N.ae 0 [] [.l 0]),f 3 v3,u (.st l0 l4 1 []),f 4 v3,u (.st l0 l3 1 [])] [(4,0)] (q [f 5 v3,u (.st l0 (.c (.nil)) 1 [(5,4)])] [] (.seq (q [f 5 v1,w 6 (.ld l0 1 false),w 7 (.ln l0),x 8 (.i 0)] [] (.blk 0 K.xT)) (q [f 6 v1,g l0,u (.ca N.ae 0 [] [.l 0]),f 7 v1,g l0,u (.ca N.ae 0 [] [.l 0]),f 6 v3,u (.st l0 l4 1 []),f 7 v3,u (.st l0 l3 1 [])] [(4,0)] (q [f 8 v3,u (.st l0 (.c (.nil)) 1 [(8,1)])] [] (.seq (q [f 8 v1,w 9 (.ld l0 1 false),w 10 (.ln l0),x 11 (.i 0)] [] (.blk 2 K.xU)) (q [h 9 v3,u (.st v2 l0 9 [])] [] .ret)))))))))),res:=[(2,some (9,true))]}
def gy:Fn:= { av:=3,vars:=[0,1,2,3,6,14],body:= .fail,res:=[(4,none)]}
def xV:C:= (.its [u (.bin .lss v7 v6)] [] 0 .skip (.exit 0) (.seq (.blk 1 (q [m v7,w 5 (.al [z0] []),u (.st l0 l1 1 [])] [] (.seq (.ite [f 6 v1,g l0,g v5,a 1 l1 l0,g l0,u (.ca N.aS 0 [] [.l 0,.i (-1),.i 65535]),u (.un .not l0),m l0,y 0 false (.fa v1 7),i 1 false l0,i 2 false v5,y 3 false (.ia l1 l0 1),i 4 false l0,y 5 false (.fa v1 2),i 6 false l0,y 7 false (.ca N.aS 0 [] [.l 2,.i (-1),.l 0]),y 8 false (.un .not l0),u (.pk l9 (.b true) l0),m l0,y 0 false (.fa v1 6),i 1 false l0,i 2 false v5,y 3 false (.ia l1 l0 1),i 4 false l0,y 5 false (.bin .eql l0 (.i (-1))),y 6 false (.fa v1 7),i 7 false l0,i 8 false v5,y 9 false (.ia l1 l0 1),i 10 false l0,y 11 false (.bin .eql l0 (.i (-1))),y 12 false (.eqk (.bool) true l6 l0),u (.pk (.l 13) (.b true) l0),m l0,y 0 false (.fa v1 8),i 1 false l0,i 2 false v5,y 3 false (.ia l1 l0 1),i 4 false l0,y 5 false (.ln l0),e 6 false v3,y 7 false (.bin .neq l1 l0),u (.pk l8 (.b true) l0)] [] 0 (q [x 2 (.b false)] [] .ret) .skip) (.ite [f 8 v1,g l0,g v5,a 1 l1 l0,g l0,u (.mf N.fq [.v 1,.v 5]),u (.ca N.ai 0 [] [.l 1,.l 0])] [] 0 (q [x 2 (.b false)] [] .ret) .skip)))) (.reg [u (.bin .add v7 (.i 1)),x 7 l0] [])))
def yU:C:= .loop true [0,2,4,5] K.xV
def gD:Fn:= { av:=1,vars:=[0,1,2,3,4,5,65,66],body:=(q [w 1 (.bx v0 9),x 2 (.b false)] [] (q [f 3 v1,g l0,u (.ln l0),f 5 v1,g l0,u (.ln l0),x 3 l3,x 4 l1] [] (.seq (.ite [f 0 v1,h 2 l0,f 5 v1,g l0,u (.ca N.c7 0 [] [.l 2,.l 0]),u (.un .not l0),m l0,e 0 false v3,y 1 false (.ca N.aS 0 [] [.l 0,.i 1,.i 12]),y 2 false (.un .not l0),u (.pk l3 (.b true) l0),m l0,y 0 false (.fa v1 4),i 1 false l0,y 2 false (.ln l0),e 3 false v3,y 4 false (.bin .neq l1 l0),u (.pk l5 (.b true) l0),m l0,y 0 false (.fa v1 4),i 1 false l0,y 2 false (.ca N.fp 0 [] [.l 0]),y 3 false (.un .not l0),u (.pk l4 (.b true) l0),m l0,y 0 false (.fa v1 2),i 1 false l0,y 2 false (.ca N.aS 0 [] [.l 0,.i 0,.i 2147483648]),y 3 false (.un .not l0),u (.pk l4 (.b true) l0),m l0,y 0 false (.fa v1 6),i 1 false l0,y 2 false (.ln l0),e 3 false v4,y 4 false (.bin .neq l1 l0),u (.pk l5 (.b true) l0),m l0,y 0 false (.fa v1 7),i 1 false l0,y 2 false (.ln l0),e 3 false v4,y 4 false (.bin .neq l1 l0),u (.pk l5 (.b true) l0),m l0,y 0 false (.fa v1 8),i 1 false l0,y 2 false (.ln l0),e 3 false v4,y 4 false (.bin .neq l1 l0),u (.pk l5 (.b true) l0)] [] 0 (q [x 2 (.b false)] [] .ret) .skip) (.seq (q [f 5 v1,g l0,w 6 (.ln l0),x 7 (.i 0)] [] (.blk 0 K.yU)) (q [f 3 v1,g l0,u (.mf N.ft [.v 1]),u (.ca N.ay 0 [] [.l 1,.l 0]),u (.un .not l0),x 2 l0] [] .ret))))),res:=[(2,none)]}
def jJ:Fn:= { av:=3,vars:=[0,1,2,3,6,7,22],body:= .fail,res:=[(4,none)]}
end Go.Ev.K
namespace Go.Ev
class AY [Lib]:Prop where
 nq:Lib.fs N.c7=some K.c7
 pH:Lib.fs N.fm=some K.fm
 qF:Lib.fs N.fp=some K.fp
 qG:Lib.fs N.gx=some K.gx
 qH:Lib.fs N.gy=some K.gy
 sY:Lib.fs N.gD=some K.gD
 vi:Lib.fs N.jJ=some K.jJ
namespace K
variable [Lib] [AY]
theorem nq:Lib.fs N.c7=some K.c7:=AY.nq
theorem pH:Lib.fs N.fm=some K.fm:=AY.pH
theorem qF:Lib.fs N.fp=some K.fp:=AY.qF
theorem qG:Lib.fs N.gx=some K.gx:=AY.qG
theorem qH:Lib.fs N.gy=some K.gy:=AY.qH
theorem sY:Lib.fs N.gD=some K.gD:=AY.sY
theorem vi:Lib.fs N.jJ=some K.jJ:=AY.vi
end K
end Go.Ev
namespace Go.Ev.K
open Go.Ev
def cI:Fn:= { av:=2,vars:=[0,1,2,3],body:=(q [w 2 (.bx v0 4),x 3 (.b false)] [] (q [f 0 v2,g l0,u (.ln l0),u (.bin .eql l0 (.i 0)),m l0,y 0 false (.fa v2 0),i 1 false l0,y 2 false (.fa v1 0),i 3 false l0,y 4 false (.ln l0),y 5 false (.bin .sub l0 (.i 1)),y 6 false (.ca N.bl 0 [] [.l 4,.i 0,.l 0]),y 7 false (.un .not l0),u (.pk l8 (.b true) l0),m l0,y 0 false (.fa v2 1),i 1 false l0,y 2 false (.ca N.aS 0 [] [.l 0,.i 1,.i 600]),y 3 false (.un .not l0),u (.pk l4 (.b true) l0),m l0,y 0 false (.fa v2 2),i 1 false l0,y 2 false (.ca N.aS 0 [] [.l 0,.i 0,.i 10]),y 3 false (.un .not l0),u (.pk l4 (.b true) l0),m l0,y 0 false (.fa v2 3),i 1 false l0,y 2 false (.ca N.aS 0 [] [.l 0,.i 0,.i 60]),y 3 false (.un .not l0),u (.pk l4 (.b true) l0),x 3 l0] [] .ret)),res:=[(3,none)]}
def aC:Fn:= { av:=2,vars:=[0,1,4],body:=(q [x 2 (.b false)] [] (q [m v0,m v1,u (.ca N.aF 0 [] [.l 1,.l 0]),u (.bin .geq l0 (.i 0)),x 2 l0] [] .ret)),res:=[(2,none)]}
def aO:Fn:= { av:=1,vars:=[0,2],body:=(q [w 1 (.mv (.c (.nil)))] [] (.itk [m v0,u (.eqk (.sl) false l0 (.c (.nil)))] [] 0 (q [w 1 (.nw 3)] [] .ret) .skip (q [u (.bsr [] 3),m v0,u (.app l1 l0 false 3),x 1 l0] [] .ret))),res:=[(1,none)]}
def fq:Fn:= { av:=3,vars:=[0,1,2,4],body:=(q [x 3 (.b false)] [] (q [m v0,f 5 v1,g l0,g v2,a 4 l1 l0,f 2 l0,g l0,u (.ca N.aS 0 [] [.l 6,.i 0,.l 0]),u (.un .not l0),x 3 l0] [] .ret)),res:=[(3,none)]}
def ay:Fn:= { av:=2,vars:=[0,1,4],body:=(q [x 2 (.b false)] [] (q [m v0,m v1,u (.ca N.aN 0 [] [.l 1,.l 0]),u (.bin .geq l0 (.i 0)),x 2 l0] [] .ret)),res:=[(2,none)]}
def ft:Fn:= { av:=2,vars:=[0,1,2,3],body:=(q [w 2 (.bx v0 3),x 3 (.b false)] [] (q [f 0 v1,h 2 l0,h 3 v2,u (.ca N.fv 0 [] [.l 1,.l 0]),u (.un .not l0),x 3 l0] [] .ret)),res:=[(3,none)]}
def fv:Fn:= { av:=2,vars:=[0,1,2,3,4],body:=(q [w 2 (.bx v0 2),w 3 (.bx v1 3),x 4 (.b false)] [] (.seq (.blk 0 (.ite [f 0 v3,g l0,f 0 v2,g l0,u (.ln l0),u (.bin .sub l0 (.i 1)),u (.ca N.aS 0 [] [.l 4,.i 0,.l 0]),u (.un .not l0),m l0] [] 0 (q [x 4 (.b false)] [] .ret) (.ite [f 1 v3,g l0,u (.bin .eql l0 (.i (-1))),m l0] [] 0 (q [f 2 v3,g l0,u (.bin .eql l0 (.i 0)),x 4 l0] [] .ret) .skip))) (q [h 2 v2,f 1 v3,g l0,f 0 v3,g l0,u (.ca N.gy 0 [] [.l 4,.l 2,.l 0]),u (.bin .geq l0 (.i 0)),m l0,y 0 true (.fa v3 2),i 1 true l0,y 2 true (.ca N.aS 0 [] [.l 0,.i 1,.i 2147483648]),u (.pk l3 l0 (.b false)),x 4 l0] [] .ret))),res:=[(4,none)]}
def fI:C:= (.its [u (.bin .lss v5 v4)] [] 0 .skip (.exit 0) (.seq (.blk 1 (q [m v5,x 3 l0] [] (.ite [m v1,m v0,m v3,a 4 l1 l0,h 4 l0,u (.cw l4 0 [] [.l 0])] [] 0 (q [m v3,x 2 l0] [] .ret) .skip))) (.reg [u (.bin .add v5 (.i 1)),x 5 l0] [])))
def fN:C:= .loop true [2,3] K.fI
def aF:Fn:= { av:=2,vars:=[0,1,4,5,7,8],body:=(q [x 2 (.i 0)] [] (.seq (q [m v0,w 4 (.ln l0),x 5 (.i 0)] [] (.blk 0 K.fN)) (q [w 2 (.mv (.i (-1)))] [] .ret))),res:=[(2,none)]}
def gL:C:= (.its [u (.bin .lss v5 v4)] [] 0 .skip (.exit 0) (.seq (.blk 1 (q [m v5,x 3 l0] [] (.ite [m v1,m v0,m v3,a 3 l1 l0,h 3 l0,u (.cw l4 0 [] [.l 0])] [] 0 (q [m v3,x 2 l0] [] .ret) .skip))) (.reg [u (.bin .add v5 (.i 1)),x 5 l0] [])))
def gT:C:= .loop true [2,3] K.gL
def aN:Fn:= { av:=2,vars:=[0,1,4,5,7,8],body:=(q [x 2 (.i 0)] [] (.seq (q [m v0,w 4 (.ln l0),x 5 (.i 0)] [] (.blk 0 K.gT)) (q [w 2 (.mv (.i (-1)))] [] .ret))),res:=[(2,none)]}
def q8:C:= (.its [u (.bin .lss v8 v7)] [] 0 .skip (.exit 0) (.seq (.blk 1 (q [a 4 v6 v8,h 4 l0,w 4 (.al [.nil,z0,z0,z0] []),u (.st l0 l1 4 [])] [] (q [f 0 v4,g l0,u (.ca N.ae 0 [] [.l 0]),f 0 v4,u (.st l0 l1 1 [])] [] (.reg [f 5 v3,g l0,h 4 v4,u (.bs [.l 0] 4),u (.app l2 l0 true 4),f 5 v3,u (.st l0 l1 1 [])] [])))) (.reg [u (.bin .add v8 (.i 1)),x 8 l0] [])))
def s4:C:= .loop true [0,4,5,9,10,11] K.q8
def q9:C:= (.its [u (.bin .lss v11 v10)] [] 0 .skip (.exit 2) (.seq (.blk 3 (q [a 1 v9 v11,g l0,x 5 l0] [] (.reg [f 8 v3,g l0,m v5,u (.ca N.ae 0 [] [.l 0]),u (.bs [.l 0] 1),u (.app l3 l0 true 1),f 8 v3,u (.st l0 l1 1 [])] [(1,4),(1,5)]))) (.reg [u (.bin .add v11 (.i 1)),x 11 l0] [])))
def s5:C:= .loop true [0,1,4,5,6,7,8] K.q9
def dI:Fn:= { av:=1,vars:=[0,1,2,3,5,7,29,30,31,56,57,58],body:=(q [w 1 (.bx v0 9),w 2 (.al [.nil,.nil,z0,.nil,.nil,.nil,.nil,.nil,.nil] [])] [] (q [h 9 v1,w 3 (.al [.nil,.nil,z0,.nil,.nil,.nil,.nil,.nil,.nil] [(5,4),(8,1)]),u (.st l0 l1 9 [])] [] (q [f 0 v1,f 0 l0,g l0,u (.ca N.aH 0 [] [.l 0]),f 0 v1,f 1 l0,g l0,u (.ca N.aM 0 [] [.l 0]),u (.bd [.nil,.nil] [(0,1,.l 4),(1,1,.l 0)]),f 0 v3,u (.st l0 l1 2 [])] [(6,0)] (q [f 3 v1,g l0,u (.ca N.aO 1 [] [.l 0]),f 4 v1,g l0,u (.ca N.ae 0 [] [.l 0]),f 3 v3,u (.st l0 l4 1 []),f 4 v3,u (.st l0 l3 1 [])] [(4,0)] (q [f 5 v3,u (.st l0 (.c (.nil)) 1 [(5,4)])] [] (.seq (q [f 5 v1,w 6 (.ld l0 1 false),w 7 (.ln l0),x 8 (.i 0)] [] (.blk 0 K.s4)) (q [f 6 v1,g l0,u (.ca N.ae 0 [] [.l 0]),f 7 v1,g l0,u (.ca N.ae 0 [] [.l 0]),f 6 v3,u (.st l0 l4 1 []),f 7 v3,u (.st l0 l3 1 [])] [(4,0)] (q [f 8 v3,u (.st l0 (.c (.nil)) 1 [(8,1)])] [] (.seq (q [f 8 v1,w 9 (.ld l0 1 false),w 10 (.ln l0),x 11 (.i 0)] [] (.blk 2 K.s5)) (q [h 9 v3,u (.st v2 l0 9 [])] [] .ret)))))))))),res:=[(2,some (9,true))]}
end Go.Ev.K
namespace Go.Ev
class vK [Lib]:Prop where
 ma:Lib.fs N.cI=some K.cI
 ch:Lib.fs N.aC=some K.aC
 eo:Lib.fs N.aO=some K.aO
 pI:Lib.fs N.fq=some K.fq
 df:Lib.fs N.ay=some K.ay
 pJ:Lib.fs N.ft=some K.ft
 pK:Lib.fs N.fv=some K.fv
 cF:Lib.fs N.aF=some K.aF
 du:Lib.fs N.aN=some K.aN
 nu:Lib.fs N.dI=some K.dI
namespace K
variable [Lib] [vK]
theorem ma:Lib.fs N.cI=some K.cI:=vK.ma
theorem ch:Lib.fs N.aC=some K.aC:=vK.ch
theorem eo:Lib.fs N.aO=some K.aO:=vK.eo
theorem pI:Lib.fs N.fq=some K.fq:=vK.pI
theorem df:Lib.fs N.ay=some K.ay:=vK.df
theorem pJ:Lib.fs N.ft=some K.ft:=vK.pJ
theorem pK:Lib.fs N.fv=some K.fv:=vK.pK
theorem cF:Lib.fs N.aF=some K.aF:=vK.cF
theorem du:Lib.fs N.aN=some K.aN:=vK.du
theorem nu:Lib.fs N.dI=some K.dI:=vK.nu
end K
end Go.Ev
namespace Go.Ev.K
open Go.Ev
def jK:Fn:= { av:=0,vars:=[0],body:=(q [w 0 (.al [.nil,.nil] [])] [] (q [u (.bs [.i (-1)] 1),u (.ca N.bm 1 [] [.l 0,.i 32]),u (.mkt (.i 32) (.int .i64 (0)) 1),u (.bd [.nil,.nil] [(0,1,.l 1),(1,1,.l 0)]),u (.st v0 l0 2 [])] [(0,0),(2,0)] .ret)),res:=[(0,some (2,true))]}
end Go.Ev.K
namespace Go.Ev
class R2 [Lib]:Prop where
 vj:Lib.fs N.jK=some K.jK
namespace K
variable [Lib] [R2]
theorem vj:Lib.fs N.jK=some K.jK:=R2.vj
end K
end Go.Ev
namespace Go.Ev.K
open Go.Ev
def jL:Fn:= { av:=2,vars:=[0,1,2,3,4,5],body:=(q [w 2 (.bx v0 2),w 3 (.bx v1 4),x 4 (.b false)] [] (q [f 0 v2,g l0,u (.ln l0),u (.bin .sub l0 (.i 1)),x 5 l0] [] (q [h 2 v2,u (.ca N.bL 0 [] [.l 0]),m l0,y 0 true (.fa v3 0),i 1 true l0,e 2 true v5,y 3 true (.ca N.bl 0 [] [.l 1,.i 0,.l 0]),u (.pk l4 l0 (.b false)),m l0,y 0 true (.fa v3 1),i 1 true l0,e 2 true v5,y 3 true (.ca N.bl 0 [] [.l 1,.i 0,.l 0]),u (.pk l4 l0 (.b false)),m l0,y 0 true (.fa v3 2),i 1 true l0,y 2 true (.fa v2 1),i 3 true l0,y 4 true (.ln l0),y 5 true (.bin .sub l0 (.i 1)),y 6 true (.ca N.bl 0 [] [.l 4,.i 0,.l 0]),u (.pk l7 l0 (.b false)),m l0,y 0 true (.fa v3 3),i 1 true l0,y 2 true (.ca N.aS 0 [] [.l 0,.i 0,.i 2147483648]),u (.pk l3 l0 (.b false)),x 4 l0] [] .ret))),res:=[(4,none)]}
end Go.Ev.K
namespace Go.Ev
class R3 [Lib]:Prop where
 vk:Lib.fs N.jL=some K.jL
namespace K
variable [Lib] [R3]
theorem vk:Lib.fs N.jL=some K.jL:=R3.vk
end K
end Go.Ev
namespace Go.Ev.K
open Go.Ev
def iF:Fn:= { av:=3,vars:=[0,1,2,3,4,6,9,10],body:= .fail,res:=[(5,none)]}
end Go.Ev.K
namespace Go.Ev
class R4 [Lib]:Prop where
 s6:Lib.fs N.iF=some K.iF
namespace K
variable [Lib] [R4]
theorem s6:Lib.fs N.iF=some K.iF:=R4.s6
end K
end Go.Ev
namespace Go.Ev.K
open Go.Ev
def jM:Fn:= { av:=8,vars:=[0,1,2,3,4,5,6,7,8,13,14,16,17,18,19,21,22,23,24],body:=(q [w 8 (.bx v0 2),w 9 (.bx v5 4),w 10 (.bx v6 3),w 11 (.al [.nil,.nil,z0,.nil,.nil,.nil,.nil,.nil,.nil,.nil,.nil,.nil,.nil,.nil,.nil,z0,.nil,z0,z0,.nil,.nil,.nil,.nil,.nil,z0,.nil,.nil,.nil,z1,z0,z0,z0,z0,.nil,.nil,.nil] []),x 12 (.i 0)] [] (q [h 2 v8,m v1,m v2,m v3,u (.ca N.iD 0 [] [.l 3,.l 2,.l 1,.l 0,.i 0]),m l0,u (.ex l0 0),u (.ex l1 1),w 13 (.al [.nil,.nil,z0,.nil,.nil,.nil,.nil,.nil,.nil] []),u (.st l0 l2 9 []),x 14 l2] [] (.seq (.ite [m v14,u (.bin .neq l0 (.i 0))] [] 0 (q [u (.bd [.nil,.nil,z0,.nil,.nil,.nil,.nil,.nil,.nil,.nil,.nil,.nil,.nil,.nil,.nil,z0,.nil,z0,z0,.nil,.nil,.nil,.nil,.nil,z0,.nil,.nil,.nil,z1,z0,z0,z0,z0,.nil,.nil,.nil] []),m v14,u (.st v11 l1 36 []),x 12 l1] [] .ret) .skip) (.seq (q [h 2 v8,m v4,u (.ca N.il 0 [] [.l 1,.l 0,.c (.nil),.i 0]),m l0,u (.ex l0 0),u (.ex l1 1),u (.al [z0,.nil] []),u (.st l0 l2 2 []),x 15 l2] [] (.ite [m v15,u (.bin .neq l0 (.i 0)),m l0,y 0 false (.ld v8 2 true),y 1 false (.ld v9 4 true),y 2 false (.ca N.jL 0 [] [.l 1,.l 0]),y 3 false (.un .not l0),u (.pk l4 (.b true) l0),m l0,y 0 false (.ld v10 3 true),y 1 false (.bd [z0,z0,z0,z0] []),y 2 false (.ca N.dD 0 [] [.l 1,.l 0]),y 3 false (.un .not l0),u (.pk l4 (.b true) l0),m l0,y 0 false (.fa v10 0),i 1 false l0,y 2 false (.fa v10 0),i 3 false l0,y 4 false (.ln l0),y 5 false (.bin .sub l0 (.i 1)),y 6 false (.ia l4 l0 1),i 7 false l0,y 8 false (.fa v8 0),i 9 false l0,y 10 false (.ln l0),y 11 false (.bin .geq l3 l0),u (.pk (.l 12) (.b true) l0)] [] 0 (q [u (.bd [.nil,.nil,z0,.nil,.nil,.nil,.nil,.nil,.nil,.nil,.nil,.nil,.nil,.nil,.nil,z0,.nil,z0,z0,.nil,.nil,.nil,.nil,.nil,z0,.nil,.nil,.nil,z1,z0,z0,z0,z0,.nil,.nil,.nil] []),u (.st v11 l0 36 []),x 12 (.i 6)] [] .ret) .skip)) (.seq (.ite [m v7,u (.mf N.gz [.v 8]),u (.ca N.ai 0 [] [.l 1,.l 0])] [] 0 (q [u (.bd [.nil,.nil,z0,.nil,.nil,.nil,.nil,.nil,.nil,.nil,.nil,.nil,.nil,.nil,.nil,z0,.nil,z0,z0,.nil,.nil,.nil,.nil,.nil,z0,.nil,.nil,.nil,z1,z0,z0,z0,z0,.nil,.nil,.nil] []),u (.st v11 l0 36 []),x 12 (.i 4)] [] .ret) .skip) (q [m v7,u (.ca N.jG 0 [] [.l 0]),m l0,u (.ex l0 0),u (.ex l1 1),w 16 (.al [.nil,.nil,z1] []),u (.st l0 l2 3 []),x 14 l2] [] (.seq (.ite [m v14,u (.bin .neq l0 (.i 0))] [] 0 (q [u (.bd [.nil,.nil,z0,.nil,.nil,.nil,.nil,.nil,.nil,.nil,.nil,.nil,.nil,.nil,.nil,z0,.nil,z0,z0,.nil,.nil,.nil,.nil,.nil,z0,.nil,.nil,.nil,z1,z0,z0,z0,z0,.nil,.nil,.nil] []),m v14,u (.st v11 l1 36 []),x 12 l1] [] .ret) .skip) (q [h 2 v8,m v3,m v2,u (.ca N.iy 0 [] [.l 2,.l 1,.l 0,.i 0]),m l0,u (.ex l0 0),u (.ex l1 1),w 17 (.al [.nil] []),u (.st l0 l2 1 []),x 14 l2] [] (.seq (.ite [m v14,u (.bin .neq l0 (.i 0))] [] 0 (q [u (.bd [.nil,.nil,z0,.nil,.nil,.nil,.nil,.nil,.nil,.nil,.nil,.nil,.nil,.nil,.nil,z0,.nil,z0,z0,.nil,.nil,.nil,.nil,.nil,z0,.nil,.nil,.nil,z1,z0,z0,z0,z0,.nil,.nil,.nil] []),m v14,u (.st v11 l1 36 []),x 12 l1] [] .ret) .skip) (q [w 18 (.al [.nil,.nil,z0,.nil,.nil,.nil,.nil,.nil,.nil,.nil,.nil,.nil,.nil,.nil,.nil,z0,.nil,z0,z0,.nil,.nil,.nil,.nil,.nil,z0,.nil,.nil,.nil,z1,z0,z0,z0,z0,.nil,.nil,.nil] []),h 9 v13,h 2 v8,m v4,h 4 v9,h 3 v10,m v1,u (.ln l0),u (.mkt l0 (.agg [(.int .i64 (0)),(.int .i64 (0)),(.int .i64 (0)),(.sl [])]) 4),u (.ca N.jK 0 [] []),h 1 v17,h 3 v16,u (.bd [.nil,.nil,z0,.nil,.nil,.nil,.nil,.nil,.nil,.nil,.nil,.nil,.nil,.nil,.nil,z0,.nil,z0,z0,.nil,.nil,.nil,.nil,.nil,z0,.nil,.nil,.nil,z1,z0,z0,z0,z0,.nil,.nil,.nil] [(0,9,.l 10),(9,2,.l 9),(11,1,.l 8),(12,4,.l 7),(16,3,.l 6),(19,1,.l 3),(21,2,.l 2),(23,1,.l 1),(26,3,.l 0)]),u (.st (.l 12) l0 36 [])] [(0,10),(1,10),(2,10),(4,10),(5,10),(8,10),(10,1),(11,1)] (q [h 36 v18,u (.ca N.eH 0 [] [.l 0]),u (.st v11 l0 36 []),x 12 (.i 0)] [] .ret))))))))))),res:=[(11,some (36,true)),(12,none)]}
def gz:Fn:= { av:=2,vars:=[0,1,3],body:=(q [x 2 (.b false)] [] (q [m v0,f 1 v1,g l0,u (.ln l0),u (.bin .sub l0 (.i 1)),u (.ca N.aS 0 [] [.l 4,.i 0,.l 0]),u (.un .not l0),x 2 l0] [] .ret)),res:=[(2,none)]}
def xW:C:= (.its [u (.bin .lss v7 v6)] [] 0 .skip (.exit 0) (.seq (.blk 1 (q [a 7 v5 v7,h 7 l0,w 4 (.al [z0,z0,z0,z0,z0,z0,.nil] []),u (.st l0 l1 7 [])] [] (q [f 6 v4,g l0,u (.ca N.ae 0 [] [.l 0]),f 6 v4,u (.st l0 l1 1 [])] [] (.reg [f 35 v3,g l0,h 7 v4,u (.bs [.l 0] 7),u (.app l2 l0 true 7),f 35 v3,u (.st l0 l1 1 [])] [])))) (.reg [u (.bin .add v7 (.i 1)),x 7 l0] [])))
def yV:C:= .loop true [0,1,4] K.xW
def eH:Fn:= { av:=1,vars:=[0,1,2,3,5,102,103,104],body:=(q [w 1 (.bx v0 36),w 2 (.al [.nil,.nil,z0,.nil,.nil,.nil,.nil,.nil,.nil,.nil,.nil,.nil,.nil,.nil,.nil,z0,.nil,z0,z0,.nil,.nil,.nil,.nil,.nil,z0,.nil,.nil,.nil,z1,z0,z0,z0,z0,.nil,.nil,.nil] [])] [] (q [h 36 v1,w 3 (.al [.nil,.nil,z0,.nil,.nil,.nil,.nil,.nil,.nil,.nil,.nil,.nil,.nil,.nil,.nil,z0,.nil,z0,z0,.nil,.nil,.nil,.nil,.nil,z0,.nil,.nil,.nil,z1,z0,z0,z0,z0,.nil,.nil,.nil] [(35,7)]),u (.st l0 l1 36 [])] [] (q [f 0 v1,h 9 l0,u (.ca N.jI 0 [] [.l 0,.i 0]),m l0,u (.ex l0 0),u (.ex l1 1),f 0 v3,u (.st l0 l2 9 [])] [] (q [f 9 v1,f 0 l0,g l0,u (.ca N.aH 0 [] [.l 0]),f 9 v1,f 1 l0,g l0,u (.ca N.aM 0 [] [.l 0]),u (.bd [.nil,.nil] [(0,1,.l 4),(1,1,.l 0)]),f 9 v3,u (.st l0 l1 2 [])] [(6,0)] (q [f 11 v1,g l0,u (.ca N.a8 0 [] [.l 0]),f 11 v3,u (.st l0 l1 1 [])] [] (q [f 12 v1,f 0 l0,g l0,u (.ca N.ae 0 [] [.l 0]),f 12 v1,f 1 l0,g l0,u (.ca N.ae 0 [] [.l 0]),f 12 v1,f 2 l0,g l0,u (.ca N.ae 0 [] [.l 0]),f 12 v3,f 0 l0,u (.st l0 l10 1 []),f 12 v3,f 1 l0,u (.st l0 l9 1 []),f 12 v3,f 2 l0,u (.st l0 l8 1 [])] [(6,0),(10,0),(10,4)] (q [f 16 v1,f 0 l0,g l0,u (.ca N.ae 0 [] [.l 0]),f 16 v3,f 0 l0,u (.st l0 l2 1 [])] [] (q [f 19 v1,g l0,u (.ca N.fw 1 [] [.l 0]),f 20 v1,g l0,u (.ca N.fw 1 [] [.l 0]),f 19 v3,u (.st l0 l4 1 []),f 20 v3,u (.st l0 l3 1 [])] [(4,0)] (q [f 21 v1,f 0 l0,g l0,u (.ca N.ae 0 [] [.l 0]),f 21 v1,f 1 l0,g l0,u (.ca N.ae 0 [] [.l 0]),u (.bd [.nil,.nil] [(0,1,.l 4),(1,1,.l 0)]),f 21 v3,u (.st l0 l1 2 [])] [(6,0)] (q [f 23 v1,h 1 l0,u (.ca N.dY 0 [] [.l 0]),f 33 v1,h 1 l0,u (.ca N.dY 0 [] [.l 0]),f 23 v3,u (.st l0 l4 1 []),f 33 v3,u (.st l0 l3 1 [])] [(4,0)] (q [f 24 v1,f 1 l0,g l0,u (.ca N.ae 0 [] [.l 0]),f 24 v3,f 1 l0,u (.st l0 l2 1 [])] [] (q [f 26 v1,f 0 l0,g l0,u (.ca N.ae 0 [] [.l 0]),f 26 v1,f 1 l0,g l0,u (.ca N.ae 0 [] [.l 0]),f 26 v3,f 0 l0,u (.st l0 l6 1 []),f 26 v3,f 1 l0,u (.st l0 l5 1 [])] [(6,0)] (q [f 34 v1,g l0,u (.ca N.aY 0 [] [.l 0]),f 34 v3,u (.st l0 l1 1 [])] [] (q [f 35 v3,u (.st l0 (.c (.nil)) 1 [(35,7)])] [] (.seq (q [f 35 v1,w 5 (.ld l0 1 false),w 6 (.ln l0),x 7 (.i 0)] [] (.blk 0 K.yV)) (q [h 36 v3,u (.st v2 l0 36 [])] [] .ret)))))))))))))))),res:=[(2,some (36,true))]}
end Go.Ev.K
namespace Go.Ev
class JI [Lib]:Prop where
 vl:Lib.fs N.jM=some K.jM
 qI:Lib.fs N.gz=some K.gz
 s7:Lib.fs N.eH=some K.eH
namespace K
variable [Lib] [JI]
theorem vl:Lib.fs N.jM=some K.jM:=JI.vl
theorem qI:Lib.fs N.gz=some K.gz:=JI.qI
theorem s7:Lib.fs N.eH=some K.eH:=JI.s7
end K
end Go.Ev
namespace Go.Ev.K
open Go.Ev
def a8:Fn:= { av:=1,vars:=[0,2],body:=(q [w 1 (.mv (.c (.nil)))] [] (.itk [m v0,u (.eqk (.sl) false l0 (.c (.nil)))] [] 0 (q [w 1 (.nw 2)] [] .ret) .skip (q [u (.bsr [] 2),m v0,u (.app l1 l0 false 2),x 1 l0] [] .ret))),res:=[(1,none)]}
def vL:C:= (.its [u (.bin .lss v6 v5)] [] 0 .skip (.exit 0) (.seq (.blk 1 (q [a 4 v4 v6,h 4 l0,w 3 (.al [z0,z0,z0,.nil] []),u (.st l0 l1 4 [])] [] (q [f 3 v3,g l0,u (.ca N.ae 0 [] [.l 0]),f 3 v3,u (.st l0 l1 1 [])] [] (.reg [m v2,h 4 v3,u (.bs [.l 0] 4),u (.app l2 l0 true 4),x 2 l0] [])))) (.reg [u (.bin .add v6 (.i 1)),x 6 l0] [])))
def xX:C:= .loop true [0,1,3] K.vL
def fw:Fn:= { av:=1,vars:=[0,2,3,5,6,7,8],body:=(q [w 1 (.mv (.c (.nil)))] [] (q [w 2 (.nw 4)] [] (.seq (q [x 4 v0,w 5 (.ln l0),x 6 (.i 0)] [] (.blk 0 K.xX)) (q [m v2,x 1 l0] [] .ret)))),res:=[(1,none)]}
def tX:C:= (.its [u (.bin .lss v7 v6)] [] 0 .skip (.exit 0) (.seq (.blk 1 (q [a 2 v5 v7,h 2 l0,w 4 (.al [.nil,.nil] []),u (.st l0 l1 2 [])] [] (.reg [f 0 v3,g l0,h 2 v4,u (.ca N.iz 0 [] [.l 0]),u (.bs [.l 0] 2),u (.app l3 l0 true 2),f 0 v3,u (.st l0 l1 1 [])] [(1,4),(1,5)]))) (.reg [u (.bin .add v7 (.i 1)),x 7 l0] [])))
def vM:C:= .loop true [0,1,4] K.tX
def dY:Fn:= { av:=1,vars:=[0,1,2,3,5,7,8,9],body:=(q [w 1 (.bx v0 1),w 2 (.al [.nil] [])] [] (q [w 3 (.al [.nil] [(0,2)])] [] (.seq (q [f 0 v1,w 5 (.ld l0 1 false),w 6 (.ln l0),x 7 (.i 0)] [] (.blk 0 K.vM)) (q [h 1 v3,u (.st v2 l0 1 [])] [] .ret)))),res:=[(2,some (1,true))]}
def aY:Fn:= { av:=1,vars:=[0,2],body:=(q [w 1 (.mv (.c (.nil)))] [] (.itk [m v0,u (.eqk (.sl) false l0 (.c (.nil)))] [] 0 (q [w 1 (.nw 9)] [] .ret) .skip (q [u (.bsr [] 9),m v0,u (.app l1 l0 false 9),x 1 l0] [] .ret))),res:=[(1,none)]}
def jN:Fn:= { av:=1,vars:=[0,1,2],body:=(q [w 1 (.bx v0 36),x 2 (.b false)] [] (q [f 0 v1,h 9 l0,u (.ca N.gD 0 [] [.l 0]),m l0,y 0 true (.fa v1 9),y 1 true (.ld l0 2 true),y 2 true (.ca N.bL 0 [] [.l 0]),u (.pk l3 l0 (.b false)),m l0,y 0 true (.fa v1 19),i 1 true l0,y 2 true (.ln l0),y 3 true (.fa v1 0),y 4 true (.fa l0 5),i 5 true l0,y 6 true (.ln l0),y 7 true (.bin .eql l4 l0),u (.pk l8 l0 (.b false)),m l0,y 0 true (.fa v1 11),i 1 true l0,y 2 true (.ln l0),y 3 true (.fa v1 9),y 4 true (.fa l0 1),i 5 true l0,y 6 true (.ln l0),y 7 true (.bin .eql l4 l0),u (.pk l8 l0 (.b false)),m l0,y 0 true (.fa v1 23),y 1 true (.fa l0 0),i 2 true l0,y 3 true (.ln l0),y 4 true (.bin .gtr l0 (.i 0)),u (.pk l5 l0 (.b false)),m l0,y 0 true (.fa v1 26),y 1 true (.ld l0 3 true),y 2 true (.ca N.ew 0 [] [.l 0]),u (.pk l3 l0 (.b false)),x 2 l0] [] .ret)),res:=[(2,none)]}
def cN:Fn:= { av:=2,vars:=[0,1,3,4],body:= .fail,res:=[(3,none)]}
def cO:Fn:= { av:=2,vars:=[0,1,3,4],body:=(q [w 2 (.bx v1 4),x 3 (.i 0)] [] (.seq (.ite [m v0,u (.nc l0),f 0 l0,f 26 l0,h 3 l0,u (.ca N.iu 0 [] [.l 0]),f 2 v2,g l0,u (.ca N.aK 0 [] [.l 2,.l 0])] [(7,0)] 0 (q [x 3 (.i 47)] [] .ret) .skip) (q [m v0,m v0,u (.nc l0),f 0 l0,f 0 l0,h 9 l0,f 1 v2,g l0,f 2 v2,g l0,f 3 v2,g l0,u (.ca N.iE 0 [] [.l 6,.l 4,.l 2,.l 0]),m l0,u (.ex l0 0),u (.ex l1 1),u (.nc (.l 15)),f 0 l0,f 0 l0,u (.st l0 l4 9 []),x 3 l4] [] (q [m v3,x 3 l0] [] .ret)))),res:=[(3,none)]}
def cP:Fn:= { av:=2,vars:=[0,1,3,4,5,6,7],body:= .fail,res:=[(3,none)]}
def cQ:Fn:= { av:=2,vars:=[0,1,2,3,4,5,6,7,8,9,11,13,133,134,135,152,153,154],body:= .fail,res:=[(4,none)]}
def cR:Fn:= { av:=2,vars:=[4],body:= .fail,res:=[(0,none)]}
def cT:Fn:= { av:=2,vars:=[4],body:= .fail,res:=[(0,none)]}
def cU:Fn:= { av:=2,vars:=[4],body:= .fail,res:=[(0,none)]}
def cV:Fn:= { av:=2,vars:=[4],body:= .fail,res:=[(0,none)]}
def cW:Fn:= { av:=2,vars:=[4],body:= .fail,res:=[(0,none)]}
def bY:Fn:= { av:=1,vars:=[0,2],body:=(q [x 1 (.i 0)] [] (q [m v0,u (.nc l0),f 0 l0,f 0 l0,f 2 l0,g l0,x 1 l0] [] .ret)),res:=[(1,none)]}
end Go.Ev.K
namespace Go.Ev
class pL [Lib]:Prop where
 fQ:Lib.fs N.a8=some K.a8
 qJ:Lib.fs N.fw=some K.fw
 pM:Lib.fs N.dY=some K.dY
 eQ:Lib.fs N.aY=some K.aY
 vn:Lib.fs N.jN=some K.jN
 ox:Lib.fs N.cN=some K.cN
 oy:Lib.fs N.cO=some K.cO
 oz:Lib.fs N.cP=some K.cP
 oA:Lib.fs N.cQ=some K.cQ
 oB:Lib.fs N.cR=some K.cR
 oC:Lib.fs N.cT=some K.cT
 oD:Lib.fs N.cU=some K.cU
 oE:Lib.fs N.cV=some K.cV
 oF:Lib.fs N.cW=some K.cW
 nv:Lib.fs N.bY=some K.bY
namespace K
variable [Lib] [pL]
theorem fQ:Lib.fs N.a8=some K.a8:=pL.fQ
theorem qJ:Lib.fs N.fw=some K.fw:=pL.qJ
theorem pM:Lib.fs N.dY=some K.dY:=pL.pM
theorem eQ:Lib.fs N.aY=some K.aY:=pL.eQ
theorem vn:Lib.fs N.jN=some K.jN:=pL.vn
theorem ox:Lib.fs N.cN=some K.cN:=pL.ox
theorem oy:Lib.fs N.cO=some K.cO:=pL.oy
theorem oz:Lib.fs N.cP=some K.cP:=pL.oz
theorem oA:Lib.fs N.cQ=some K.cQ:=pL.oA
theorem oB:Lib.fs N.cR=some K.cR:=pL.oB
theorem oC:Lib.fs N.cT=some K.cT:=pL.oC
theorem oD:Lib.fs N.cU=some K.cU:=pL.oD
theorem oE:Lib.fs N.cV=some K.cV:=pL.oE
theorem oF:Lib.fs N.cW=some K.cW:=pL.oF
theorem nv:Lib.fs N.bY=some K.bY:=pL.nv
end K
end Go.Ev
