/- Parts of the proof: see the text that holds the theorem. -/
import Derived.Test.YtljlbkjecjloaaaGreatZ3
set_option linter.all false
set_option maxRecDepth 100000
namespace Go.Ev
open Go
section
variable (H : ai) (sz id ep n lo hi : Nat) (i j : Int) (fz : Bool)
def scO(r:D):Option Obj→Option (D×ai)
 | some (.arr sz' _ ep' es)=>if ep=ep'∧n=es.length then(if sz'=sz then some (r,H)else none)else none
 | _=>none
@[go_sem] theorem agZ (r : D) (sz' : Nat) (pin : Bool) (es : List D) : scO H sz ep n r (some (.arr sz' pin ep es)) = if n = es.length then (if sz' = sz then some (r, H) else none) else none := by simp [scO]
theorem scR{l h:Nat}:((fV H id ep n).bind fun a=>if l≤h∧h≤n∧a.1=sz then some (D.sub id ep n l h)else none).map (fun d=>(d,H))=if l≤h then(if h≤n then scO H sz ep n (.sub id ep n l h) H[id]? else none)else none:=by
 simp only[fV]
 generalize H[id]?=o
 by_cases h1:l≤h
 · by_cases h2:h≤n
   · rw[if_pos h1,if_pos h2]
     rcases o with _ | (_ | ⟨sz',pin,ep',es⟩)
     · rfl
     · rfl
     · simp only[scO]
       by_cases h3:ep=ep'∧n=es.length
       · rw[if_pos h3,if_pos h3,Option.bind_some]
         by_cases h4:sz'=sz
         · rw[if_pos h4,if_pos ⟨h1,h2,h4⟩];rfl
         · rw[if_neg h4,if_neg fun h=>h4 h.2.2];rfl
       · rw[if_neg h3,if_neg h3];rfl
   · rw[if_pos h1,if_neg h2]
     rcases o with _ | (_ | ⟨sz',pin,ep',es⟩)
     · rfl
     · rfl
     · by_cases h3:ep=ep'∧n=es.length
       · simp only[if_pos h3,Option.bind_some];rw[if_neg fun h=>h2 h.2.1];rfl
       · simp only[if_neg h3];rfl
 · rw[if_neg h1]
   rcases o with _ | (_ | ⟨sz',pin,ep',es⟩)
   · rfl
   · rfl
   · by_cases h3:ep=ep'∧n=es.length
     · simp only[if_pos h3,Option.bind_some];rw[if_neg fun h=>h1 h.1];rfl
     · simp only[if_neg h3];rfl
@[go_sem] theorem VD : Nh H sz (some (.ref id ep n)) (some none) (some (some i)) = if 0 ≤ i then (if i ≤ n then scO H sz ep n (.sub id ep n 0 i.toNat) H[id]? else none) else none := by
 simp only[Nh,Option.bind_some,sJ,bound,idx]
 by_cases h1:0≤i
 · rw[if_pos h1,if_pos h1,Option.bind_some,scR,if_pos (Nat.zero_le _)]
   by_cases h2:i≤n
   · rw[if_pos h2,if_pos (by omega)]
   · rw[if_neg h2,if_neg (by omega)]
 · rw[if_neg h1,if_neg h1];rfl
@[go_sem] theorem VE : Nh H sz (some (.ref id ep n)) (some (some i)) (some none) = if 0 ≤ i then (if i ≤ n then scO H sz ep n (.sub id ep n i.toNat n) H[id]? else none) else none := by
 simp only[Nh,Option.bind_some,sJ,bound,idx]
 by_cases h1:0≤i
 · rw[if_pos h1,if_pos h1,Option.bind_some,scR]
   by_cases h2:i≤n
   · rw[if_pos h2,if_pos (by omega),if_pos (by omega)]
   · rw[if_neg h2,if_neg (by omega)]
 · rw[if_neg h1,if_neg h1];rfl
@[go_sem] theorem VF : Nh H sz (some .nil) (some none) (some (some i)) = if i = 0 then some (.nil, H) else none := by
 simp only[Nh,Option.bind_some,sJ,bound,idx]
 by_cases h1:0≤i
 · rw[if_pos h1,Option.bind_some]
   by_cases h2:i=0
   · rw[if_pos h2,if_pos (by omega)];rfl
   · rw[if_neg h2,if_neg (by omega)];rfl
 · rw[if_neg h1,if_neg (by omega)];rfl
@[go_sem] theorem VG : Nh H sz (some .nil) (some (some i)) (some none) = if i = 0 then some (.nil, H) else none := by
 simp only[Nh,Option.bind_some,sJ,bound,idx]
 by_cases h1:0≤i
 · rw[if_pos h1,Option.bind_some]
   by_cases h2:i=0
   · rw[if_pos h2,if_pos (by omega)];rfl
   · rw[if_neg h2,if_neg (by omega)];rfl
 · rw[if_neg h1,if_neg (by omega)];rfl
def PJ(x:D)(ys:List D):Option (D×ai):=if cY sz ys=true then(match x with
 | .nil=>if ys.length≤4294967296 then some (.ref H.length 0 ys.length,H++[.arr sz false 0 ys])else none
 | .ref id ep n=>zb H sz id ep n ys H[id]?
 | _=>none)else none
@[go_sem] theorem aez (ys : List D) : PJ H sz .nil ys = if cY sz ys = true then (if ys.length ≤ 4294967296 then some (.ref H.length 0 ys.length, H ++ [.arr sz false 0 ys]) else none) else none := (rfl)
@[go_sem] theorem aeA (ys : List D) : PJ H sz (.ref id ep n) ys = if cY sz ys = true then zb H sz id ep n ys H[id]? else none := (rfl)
@[go_sem] theorem SV : cY sz [] = true := (rfl)
@[go_sem] theorem DJ (d : D) (r : List D) : cY sz (d :: r) = pE sz d.cells := by
 rw[Bool.eq_iff_iff,gk];simp[cY]
def abP(x:D):Option Obj→Option (D×ai)
 | some (.arr _ _ ep' es)=>if ep=ep'∧n=es.length then PJ H sz x ((es.drop lo).take (hi-lo))else none
 | _=>none
def abQ(x:D):Option Obj→Option (D×ai)
 | some (.arr _ _ ep' es)=>if ep=ep'∧n=es.length then PJ H sz x es else none
 | _=>none
@[go_sem] theorem aeB (x : D) (sz' : Nat) (pin : Bool) (es : List D) : abP H sz ep n lo hi x (some (.arr sz' pin ep es)) = if n = es.length then PJ H sz x ((es.drop lo).take (hi - lo)) else none := by simp [abP]
@[go_sem] theorem aeC (x : D) (sz' : Nat) (pin : Bool) (es : List D) : abQ H sz ep n x (some (.arr sz' pin ep es)) = if n = es.length then PJ H sz x es else none := by simp [abQ]
theorem VH(x:D)(ys:List D):(if cY sz ys=true then(match x with
 | .nil=>if ys.length≤lim then some (D.ref H.length 0 ys.length,H++[.arr sz false 0 ys])else none
 | .ref id ep n=>(fV H id ep n).bind fun a=>if a.1=sz∧n+ys.length≤lim then some (.ref id ep (n+ys.length),H.set id (.arr sz a.2.1 ep (a.2.2++ys)))else none
 | _=>none)else none)=PJ H sz x ys:=by
 unfold PJ
 split
 · cases x with
   | ref id ep n=>
     simp only[fV]
     generalize H[id]?=o
     rcases o with _ | (_ | ⟨sz',pin,ep',es⟩)
     · rfl
     · rfl
     · simp only[zb]
       by_cases h1:ep=ep'∧n=es.length
       · rw[if_pos h1,Option.bind_some]
         by_cases h2:sz'=sz∧n+ys.length≤lim
         · rw[if_pos h2,if_pos ⟨h1.1,h1.2,h2⟩]
         · rw[if_neg h2,if_neg fun h=>h2 h.2.2]
       · rw[if_neg h1,if_neg fun h=>h1 ⟨h.1,h.2.1⟩];rfl
   | _=>rfl
 · rfl
theorem yz(x y:D)(ys:List D)(h:elems H y=some ys):sT H sz false (some x) (some y)=PJ H sz x ys:=by
 simp only[sT,Option.bind_some,pD,h,Bool.false_eq_true,if_false]
 exact VH H sz x ys
@[go_sem] theorem PL (x : D) : sT H sz false (some x) (some .nil) = PJ H sz x [] := yz H sz x .nil [] rfl
@[go_sem] theorem PM (x : D) : sT H sz false (some x) (some (.ref id ep n)) = abQ H sz ep n x H[id]? := by
 cases he:elems H (.ref id ep n)with
 | some ys=>
   rw[yz H sz x _ ys he]
   simp only[elems,fV]at he
   generalize H[id]?=o at he
   rcases o with _ | (_ | ⟨sz',pin,ep',es⟩)
   · cases he
   · cases he
   · simp only[abQ]
     by_cases h1:ep=ep'∧n=es.length
     · simp only[if_pos h1]at he ⊢;cases he;rfl
     · simp only[if_neg h1]at he;cases he
 | none=>
   have:sT H sz false (some x) (some (.ref id ep n))=none:=by simp only[sT,Option.bind_some,pD,he];rfl
   rw[this]
   simp only[elems,fV]at he
   generalize H[id]?=o at he
   rcases o with _ | (_ | ⟨sz',pin,ep',es⟩)
   · rfl
   · rfl
   · simp only[abQ]
     by_cases h1:ep=ep'∧n=es.length
     · simp only[if_pos h1]at he;cases he
     · simp only[if_neg h1]
@[go_sem] theorem PN (x : D) : sT H sz false (some x) (some (.sub id ep n lo hi)) = abP H sz ep n lo hi x H[id]? := by
 cases he:elems H (.sub id ep n lo hi)with
 | some ys=>
   rw[yz H sz x _ ys he]
   simp only[elems,fV]at he
   generalize H[id]?=o at he
   rcases o with _ | (_ | ⟨sz',pin,ep',es⟩)
   · cases he
   · cases he
   · simp only[abP]
     by_cases h1:ep=ep'∧n=es.length
     · simp only[if_pos h1]at he ⊢;cases he;rfl
     · simp only[if_neg h1]at he;cases he
 | none=>
   have:sT H sz false (some x) (some (.sub id ep n lo hi))=none:=by simp only[sT,Option.bind_some,pD,he];rfl
   rw[this]
   simp only[elems,fV]at he
   generalize H[id]?=o at he
   rcases o with _ | (_ | ⟨sz',pin,ep',es⟩)
   · rfl
   · rfl
   · simp only[abP]
     by_cases h1:ep=ep'∧n=es.length
     · simp only[if_pos h1]at he;cases he
     · simp only[if_neg h1]
def QY(ds:List D):Option (D×ai):=if ds.all (fun d=>d.cells.length==sz&&d.jC)then some (.ref H.length 0 ds.length,H++[.arr sz false 0 ds])else none
@[go_sem] theorem ah7 (call : aT) (get : X → Option D) (xs : List X) : evO call get H (.bsr xs sz) = (bA get xs).bind (QY H sz) := (rfl)
@[go_sem] theorem abR : QY H sz [] = some (.ref H.length 0 0, H ++ [.arr sz false 0 []]) := (rfl)
@[go_sem] theorem abS (cs : List D) : QY H sz [.agg cs] = if pE sz cs = true then some (.ref H.length 0 1, H ++ [.arr sz false 0 [.agg cs]]) else none := by
 simp only[QY,List.all_cons,List.all_nil,Bool.and_true,D.cells,D.jC]
 by_cases h:pE sz cs=true
 · rw[if_pos h,if_pos (by simpa using gk.1 h)];rfl
 · rw[if_neg h,if_neg (by intro e;exact h (gk.2 (by simpa using e)))]
end
@[go_sem] theorem SW : (1 : Int).toNat = 1 := (rfl)
section
variable {H t : ai} {i j k : Nat} {o o' : Obj}
theorem dT(h:i<H.length):(H++t)[i]?=H[i]?:=List.getElem?_append_left h
theorem cF:(H++t)[H.length]?=t[0]?:=by rw[List.getElem?_append_right (Nat.le_refl _),Nat.sub_self]
theorem fo:(H++t)[H.length+k]?=t[k]?:=by rw[List.getElem?_append_right (Nat.le_add_right _ _),Nat.add_sub_cancel_left]
theorem sk(h:i<H.length):(H++t).set i o=H.set i o++t:=List.set_append_left _ _ h
theorem dF:(H++t).set H.length o=H++t.set 0 o:=by rw[List.set_append_right _ _ (Nat.le_refl _),Nat.sub_self]
theorem yA:(H++t).set (H.length+k) o=H++t.set k o:=by rw[List.set_append_right _ _ (Nat.le_add_right _ _),Nat.add_sub_cancel_left]
theorem de(h:i<H.length):(H.set i o)[i]?=some o:=by simp[h]
theorem bg(h:i≠j):(H.set i o)[j]?=H[j]?:=List.getElem?_set_ne h
theorem uv:(H.set i o).set i o'=H.set i o':=List.set_set ..
theorem n5(a b:ai):(H++a)++b=H++(a++b):=List.append_assoc ..
theorem gM(h:H[i]?=some o):i<H.length:=(List.getElem?_eq_some_iff.1 h).1
end
theorem HX(H:ai)(id sz n:Nat)(es:List D)(ts:List T)(hid:H[id]?=some (.arr sz false 0 es))(hn:n=es.length)(hf:bA (frz H 8) es=some ts)(ha:∀i∈es.flatMap (fF H 8),i≠id):
 finish 0 1 H [.ref id 0 n]=some (.ref 0 0 n,[.arr sz false 0 (ts.map .t)]):=by
 have hold:([D.ref id 0 n].all (old 0 depth)&&(H.take 0).all (fun o=>o.ds.all (old 0 depth)))=false:=by
  simp[old,depth]
 have hmap:∀ {es:List D} {ts:List T},bA (frz H 8) es=some ts→bA (fun d=>(frz H 8 d).map D.t) es=some (ts.map .t):=by
  intro es
  induction es with
  | nil=>intro ts h;simp[bA]at h;subst h;rfl
  | cons e es ih=>
    intro ts h
    simp only[bA,Option.bind_eq_some_iff,Option.map_eq_some_iff]at h
    obtain⟨y,hy,r,hr,rfl⟩:=h
    simp only[bA,hy,Option.map_some,Option.bind_some,ih hr,List.map_cons]
 have hnew:(eJ [] [id]).drop 0=[id]:=by simp[eJ]
 have hall:(es.flatMap (fF H 8)).all (fun i=> !([]++[id]).contains i)=true:=by
  rw[List.all_eq_true];intro i hi;simpa using ha i hi
 unfold finish
 rw[if_neg (by omega),Option.bind_some,hold,if_neg (by simp)]
 have hk:gF H (max 1 1) (List.range 0) ([D.ref id 0 n].flatMap (ids depth)++jA H (List.range 0))=some ([id],[.arr sz false 0 (ts.map .t)]):=by
  have e1:[D.ref id 0 n].flatMap (ids depth)++jA H (List.range 0)=[id]:=by simp[ids,depth,jA]
  rw[e1]
  simp only[Nat.max_self,List.range_zero]
  unfold gF
  simp only[List.length_nil,hnew,pick,hid,Option.bind_some,Option.map_some,if_true,List.flatMap_cons,List.flatMap_nil,List.append_nil,Obj.ds,depth,hall,bA,cU,hmap hf]
  simp only[gF,Option.map_some,List.append_nil,Option.bind_some]
 rw[hk]
 simp only[Option.bind_some,List.range_zero,List.nil_append,List.take_zero,ik,Nat.succ_ne_zero,if_false,Nat.one_ne_zero,List.all_nil,if_true,bA,ren,idxOf,Option.map_some,bY,sC,depth]
 have:=vJ (fun i=>if id=i then some 0 else Option.map (fun x=>x+1) none) ts
 simp only[depth]at this
 rw[this];rfl
end Go.Ev
namespace Go.Ev.N
def NK:Nat:=78
def L9:Nat:=79
def KS:Nat:=80
def VI:Nat:=81
def PO:Nat:=82
def VJ:Nat:=83
def VK:Nat:=84
def VL:Nat:=85
def Y2:Nat:=86
def SX:Nat:=87
def VM:Nat:=88
def SY:Nat:=89
def SZ:Nat:=90
def Y3:Nat:=91
def fS:Nat:=92
def dZ:Nat:=93
def kd:Nat:=94
def abT:Nat:=95
def VN:Nat:=96
def Y4:Nat:=97
def VO:Nat:=98
def VP:Nat:=99
def VQ:Nat:=100
def Y5:Nat:=101
def abU:Nat:=102
def G7:Nat:=103
def QZ:Nat:=104
def eV:Nat:=105
def eh:Nat:=106
def jd:Nat:=107
def Y6:Nat:=108
def VR:Nat:=109
def Y7:Nat:=110
def ga:Nat:=111
def VS:Nat:=112
def fw:Nat:=113
def je:Nat:=114
def S0:Nat:=115
def Y8:Nat:=116
def Y9:Nat:=117
def cB:Nat:=118
def S1:Nat:=119
def dU:Nat:=120
def eO:Nat:=121
def b9:Nat:=122
end Go.Ev.N
namespace Go.Ev.N
def NL:Nat:=123
def Ma:Nat:=124
def PQ:Nat:=125
def NM:Nat:=126
def VT:Nat:=127
def VU:Nat:=128
def VV:Nat:=129
def Za:Nat:=130
def Zb:Nat:=131
def VW:Nat:=132
def VX:Nat:=133
def Q0:Nat:=134
def Q1:Nat:=135
def Zc:Nat:=136
def VY:Nat:=137
def Q2:Nat:=138
def S2:Nat:=139
def PR:Nat:=140
def S3:Nat:=141
def Q3:Nat:=142
def NN:Nat:=143
def NQ:Nat:=144
def dh:Nat:=145
def S4:Nat:=146
def S5:Nat:=147
def bQ:Nat:=148
end Go.Ev.N
namespace Go.Ev.N
def Jx:Nat:=149
def NR:Nat:=150
def NS:Nat:=151
def Mb:Nat:=152
def VZ:Nat:=153
def V0:Nat:=154
def S6:Nat:=155
def S7:Nat:=156
def V1:Nat:=157
def Zd:Nat:=158
def V2:Nat:=159
def aZ:Nat:=160
def Jy:Nat:=161
def V3:Nat:=162
def Ze:Nat:=163
def S8:Nat:=164
def Zf:Nat:=165
def S9:Nat:=166
def eG:Nat:=167
def uI:Nat:=168
def Q4:Nat:=169
def dV:Nat:=170
def KT:Nat:=171
def Q5:Nat:=172
def jf:Nat:=173
def wI:Nat:=174
def NT:Nat:=175
def di:Nat:=176
def gq:Nat:=177
end Go.Ev.N
namespace Go.Ev.K
open Go.Ev
def dj:C:=(.seq (.ite [m v6,m v5,u (.ln l0),u (.bin .lss l2 l0)] [] 0 .skip (.exit 0)) (.blk 1 (.reg [m v6,m v5,m v6,u (.sc l1 (some l0) none 1),m v5,m v6,u (.sc l1 none (some l0) 1),u (.cp l3 l0 1),u (.bin .add l7 l0),w 6 (.mv l0)] [])))
def kT:C:= .loop true [0,1,2,3,4] K.dj
def aZ:Fn:={ nargs:=2,vars:=[0,1,4,5,6,7,8],body:=(.seq (.reg [w 2 (.mv (.c (.nil)))] []) (.seq (.ite [m v1,u (.bin .lss l0 (.i 0))] [] 0 .fail .skip) (.seq (.reg [m v0,u (.ln l0),u (.cv .u64 l0),m v1,u (.cv .u64 l0),u (.ca N.dV 0 [] [.l 2,.l 0]),m l0,u (.ex l0 0),u (.ex l1 1),w 3 (.mv l1),w 4 (.mv l1)] []) (.seq (.ite [m v3,u (.bin .gtr l0 (.c (.t (.int .u64 (0))))),m l0,y 0 false (.mv v4),y 1 false (.bin .gtr l0 (.c (.t (.int .u64 (9223372036854775807))))),u (.pk l2 (.b true) l0)] [] 0 .fail .skip) (.seq (.reg [m v4,u (.cv .i64 l0),u (.mk l0 (.t (.int .i64 (0))) 1),w 5 (.mv l0)] []) (.seq (.reg [m v5,m v0,u (.cp l1 l0 1),w 6 (.mv l0)] []) (.seq (.blk 0 K.kT) (.seq (.reg [m v5,w 2 (.mv l0)] []) .ret)))))))),res:=[(2,none)]}
def eG:Fn:={ nargs:=1,vars:=[0,1,2],body:=(.seq (.reg [w 1 (.bx v0 2),w 2 (.mv (.b false))] []) (.seq (.reg [h 2 v1,u (.ca N.jf 0 [] [.l 0]),u (.bin .eql l0 (.i 0)),w 2 (.mv l0)] []) .ret)),res:=[(2,none)]}
def dV:Fn:={ nargs:=2,vars:=[0,1,4,5,8,9],body:=(.seq (.reg [w 2 (.mv (.c (.t (.int .u64 (0))))),w 3 (.mv (.c (.t (.int .u64 (0)))))] []) (.seq (.cnd false .skip) (.seq (.reg [m v0,m v1,u (.ca N.di 0 [] [.l 1,.l 0]),m l0,u (.ex l0 0),u (.ex l1 1),w 4 (.mv l1),w 5 (.mv l1)] []) (.seq (.reg [m v4,m v5,w 2 (.mv l1),w 3 (.mv l1)] []) .ret)))),res:=[(2,none),(3,none)]}
end Go.Ev.K
namespace Go.Ev
class fM [Lib]:Prop where
 iR:Lib.fs N.aZ=some K.aZ
 tA:Lib.fs N.eG=some K.eG
 oE:Lib.fs N.dV=some K.dV
namespace K
variable [Lib] [fM]
theorem iR:Lib.fs N.aZ=some K.aZ:=fM.iR
theorem tA:Lib.fs N.eG=some K.eG:=fM.tA
theorem oE:Lib.fs N.dV=some K.dV:=fM.oE
end K
end Go.Ev
namespace Go.Ev.K
open Go.Ev
def pS:C:=(.its [u (.bin .lss v8 v7)] [] 0 .skip (.exit 0) (.seq (.blk 1 (.seq (.reg [a 2 v6 v8,h 2 l0,w 3 (.al [.t (.int .i64 (0)),.t (.bool false)] []),u (.st l0 l1 2 [])] []) (.ite [f 0 v3,g l0,u (.bin .lss l0 (.i (-10000))),m l0,y 0 false (.fa v3 0),y 1 false (.ld l0 1 false),y 2 false (.bin .gtr l0 (.i 10000)),u (.pk l3 (.b true) l0)] [] 0 (.seq (.reg [w 2 (.mv (.i 1))] []) .ret) .skip))) (.reg [u (.bin .add v8 (.i 1)),w 8 (.mv l0)] [])))
def xv:C:= .loop true [0,2,3,4,5,9,10,11] K.pS
def pT:C:=(.its [u (.bin .lss v11 v10)] [] 0 .skip (.exit 2) (.seq (.blk 3 (.seq (.reg [a 10 v9 v11,h 10 l0,w 5 (.al [.t (.int .i64 (0)),.t (.int .i64 (0)),.t (.int .i64 (0)),.t (.int .i64 (0)),.t (.bool false),.t (.bool false),.t (.int .i64 (0)),.t (.int .i64 (0)),.t (.int .i64 (0)),.t (.int .i64 (0))] []),u (.st l0 l1 10 [])] []) (.seq (.ite [f 0 v5,g l0,u (.bin .lss l0 (.i 0)),m l0,y 0 false (.fa v5 0),y 1 false (.ld l0 1 false),y 2 false (.mv v4),y 3 false (.bin .geq l1 l0),u (.pk l4 (.b true) l0),m l0,y 0 false (.fa v5 1),y 1 false (.ld l0 1 false),y 2 false (.bin .lss l0 (.i 0)),u (.pk l3 (.b true) l0),m l0,y 0 false (.fa v5 1),y 1 false (.ld l0 1 false),y 2 false (.mv v4),y 3 false (.bin .geq l1 l0),u (.pk l4 (.b true) l0),m l0,y 0 false (.fa v5 0),y 1 false (.ld l0 1 false),y 2 false (.fa v5 1),y 3 false (.ld l0 1 false),y 4 false (.bin .eql l2 l0),u (.pk l5 (.b true) l0)] [] 0 (.seq (.reg [w 2 (.mv (.i 4))] []) .ret) .skip) (.seq (.ite [f 2 v5,g l0,u (.bin .lss l0 (.i 1)),m l0,y 0 false (.fa v5 2),y 1 false (.ld l0 1 false),y 2 false (.bin .gtr l0 (.i 100000)),u (.pk l3 (.b true) l0),m l0,y 0 false (.fa v5 3),y 1 false (.ld l0 1 false),y 2 false (.bin .lss l0 (.i 1)),u (.pk l3 (.b true) l0),m l0,y 0 false (.fa v5 3),y 1 false (.ld l0 1 false),y 2 false (.bin .gtr l0 (.i 1000)),u (.pk l3 (.b true) l0)] [] 0 (.seq (.reg [w 2 (.mv (.i 1))] []) .ret) .skip) (.ite [f 6 v5,h 2 l0,u (.ca N.gq 0 [] [.l 0,.i 1,.i 262144]),u (.un .not l0),m l0,y 0 false (.fa v5 8),y 1 false (.ld l0 2 true),y 2 false (.ca N.gq 0 [] [.l 0,.i (-2199023255552),.i 2199023255552]),y 3 false (.un .not l0),u (.pk l4 (.b true) l0)] [] 0 (.seq (.reg [w 2 (.mv (.i 1))] []) .ret) .skip))))) (.reg [u (.bin .add v11 (.i 1)),w 11 (.mv l0)] [])))
def xx:C:= .loop true [0,1,2,3,5,6,7,8] K.pT
def jf:Fn:={ nargs:=1,vars:=[0,1,2,4,5,7,19,20,21,38,39,40],body:=(.seq (.reg [w 1 (.bx v0 2),w 2 (.mv (.i 0))] []) (.seq (.ite [f 0 v1,g l0,u (.ln l0),u (.bin .gtr l0 (.i 64)),m l0,y 0 false (.fa v1 1),y 1 false (.ld l0 1 false),y 2 false (.ln l0),y 3 false (.bin .gtr l0 (.i 128)),u (.pk l4 (.b true) l0)] [] 0 (.seq (.reg [w 2 (.mv (.i 2))] []) .ret) .skip) (.seq (.seq (.reg [f 0 v1,w 6 (.ld l0 1 false),w 7 (.ln l0),w 8 (.mv (.i 0))] []) (.blk 0 K.xv)) (.seq (.reg [f 0 v1,g l0,u (.ln l0),w 4 (.mv l0)] []) (.seq (.seq (.reg [f 1 v1,w 9 (.ld l0 1 false),w 10 (.ln l0),w 11 (.mv (.i 0))] []) (.blk 2 K.xx)) (.seq (.reg [w 2 (.mv (.i 0))] []) .ret)))))),res:=[(2,none)]}
def di:Fn:={ nargs:=2,vars:=[0,1,4,5,6,7,8,9,10,11,12,13],body:=(.seq (.reg [w 2 (.mv (.c (.t (.int .u64 (0))))),w 3 (.mv (.c (.t (.int .u64 (0)))))] []) (.seq (.reg [m v0,u (.bin .and l0 (.c (.t (.int .u64 (4294967295))))),w 4 (.mv l0)] []) (.seq (.reg [m v0,u (.bin .shr l0 (.c (.t (.int .u64 (32))))),w 5 (.mv l0)] []) (.seq (.reg [m v1,u (.bin .and l0 (.c (.t (.int .u64 (4294967295))))),w 6 (.mv l0)] []) (.seq (.reg [m v1,u (.bin .shr l0 (.c (.t (.int .u64 (32))))),w 7 (.mv l0)] []) (.seq (.reg [m v4,m v6,u (.bin .mul l1 l0),w 8 (.mv l0)] []) (.seq (.reg [m v5,m v6,u (.bin .mul l1 l0),m v8,u (.bin .shr l0 (.c (.t (.int .u64 (32))))),u (.bin .add l2 l0),w 9 (.mv l0)] []) (.seq (.reg [m v9,u (.bin .and l0 (.c (.t (.int .u64 (4294967295))))),w 10 (.mv l0)] []) (.seq (.reg [m v9,u (.bin .shr l0 (.c (.t (.int .u64 (32))))),w 11 (.mv l0)] []) (.seq (.reg [m v10,m v4,m v7,u (.bin .mul l1 l0),u (.bin .add l3 l0),w 10 (.mv l0)] []) (.seq (.reg [m v5,m v7,u (.bin .mul l1 l0),m v11,u (.bin .add l1 l0),m v10,u (.bin .shr l0 (.c (.t (.int .u64 (32))))),u (.bin .add l2 l0),w 2 (.mv l0)] []) (.seq (.reg [m v0,m v1,u (.bin .mul l1 l0),w 3 (.mv l0)] []) .ret)))))))))))),res:=[(2,none),(3,none)]}
def gq:Fn:={ nargs:=3,vars:=[0,1,2,3,6],body:=(.seq (.reg [w 3 (.bx v0 2),w 4 (.mv (.b false))] []) (.seq (.reg [m v1,f 0 v3,g l0,u (.bin .leq l2 l0),m l0,y 0 true (.fa v3 0),y 1 true (.ld l0 1 false),y 2 true (.fa v3 1),y 3 true (.ld l0 1 false),y 4 true (.bin .leq l2 l0),u (.pk l5 l0 (.b false)),m l0,y 0 true (.fa v3 1),y 1 true (.ld l0 1 false),y 2 true (.mv v2),y 3 true (.bin .leq l1 l0),u (.pk l4 l0 (.b false)),w 4 (.mv l0)] []) .ret)),res:=[(4,none)]}
end Go.Ev.K
namespace Go.Ev
class fN [Lib]:Prop where
 tB:Lib.fs N.jf=some K.jf
 mD:Lib.fs N.di=some K.di
 rE:Lib.fs N.gq=some K.gq
namespace K
variable [Lib] [fN]
theorem tB:Lib.fs N.jf=some K.jf:=fN.tB
theorem mD:Lib.fs N.di=some K.di:=fN.mD
theorem rE:Lib.fs N.gq=some K.gq:=fN.rE
end K
end Go.Ev
namespace Go.Ev
open Go
variable [Lib] [bW] [bL] [fM] [fN]
section
variable (H : ai) (sz : Nat)
def Ta(id ep n lo hi:Nat)(ys:List D):Option Obj→Option (D×ai)
 | some (.arr sz' pin ep' es)=>if ep=ep'∧n=es.length then TV H id ep (sz',pin,es) lo hi ys sz else none
 | _=>none
def cpD(x:D)(ys:List D):Option (D×ai):=if cY sz ys=true then(match x with
 | .ref id ep n=>Ta H sz id ep n 0 n ys H[id]?
 | .sub id ep n lo hi=>Ta H sz id ep n lo hi ys H[id]?
 | _=>none)else none
def aeD(x y:Option D):Option (D×ai):=x.bind fun a=>y.bind fun b=>C7 H a b sz
@[go_sem] theorem aiU (call : aT) (get : X → Option D) (x y : X) : evO call get H (.cp x y sz) = aeD H sz (get x) (get y) := (rfl)
theorem Jz(x y:D)(ys:List D)(h:elems H y=some ys):C7 H x y sz=cpD H sz x ys:=by
 unfold C7 cpD
 rw[h,Option.bind_some]
 split
 · rename_i hh
   cases x with
   | ref id ep n=>
     simp only[fV,Ta]
     cases H[id]? with
     | none=>rfl
     | some o=>
       cases o with
       | box cs=>rfl
       | arr sz' pin ep' es=>
         simp only
         by_cases c:ep=ep'∧n=es.length
         · rw[if_pos c,if_pos c];rfl
         · rw[if_neg c,if_neg c];rfl
   | sub id ep n lo hi=>
     simp only[fV,Ta]
     cases H[id]? with
     | none=>rfl
     | some o=>
       cases o with
       | box cs=>rfl
       | arr sz' pin ep' es=>
         simp only
         by_cases c:ep=ep'∧n=es.length
         · rw[if_pos c,if_pos c];rfl
         · rw[if_neg c,if_neg c];rfl
   | _=>rfl
 · rfl
@[go_sem] theorem ah8 (x : D) (ts : List T) : aeD H sz (some x) (some (.t (.sl ts))) = cpD H sz x (ts.map .t) := Jz H sz x (.t (.sl ts)) (ts.map .t) rfl
def cpE(x:D)(ep n lo hi:Nat):Option Obj→Option (D×ai)
 | some (.arr _ _ ep' es)=>if ep=ep'∧n=es.length then cpD H sz x ((es.drop lo).take (hi-lo))else none
 | _=>none
@[go_sem] theorem ag0 (x : D) (n lo hi sz' : Nat) (pin : Bool) (ep : Nat) (es : List D) : cpE H sz x ep n lo hi (some (.arr sz' pin ep es)) = if n = es.length then cpD H sz x ((es.drop lo).take (hi - lo)) else none := by simp [cpE]
@[go_sem] theorem aeE (x : D) (id ep n lo hi : Nat) : aeD H sz (some x) (some (.sub id ep n lo hi)) = cpE H sz x ep n lo hi H[id]? := by
 unfold aeD
 simp only[Option.bind_some]
 cases h:H[id]? with
 | none=>simp[C7,elems,fV,h,cpE]
 | some o=>
   cases o with
   | box cs=>simp[C7,elems,fV,h,cpE]
   | arr sz' pin ep' es=>
     by_cases c:ep=ep'∧n=es.length
     · rw[Jz H sz x _ ((es.drop lo).take (hi-lo)) (by simp[elems,fV,h,c])]
       simp only[cpE,if_pos c]
     · simp[C7,elems,fV,h,cpE,c]
@[go_sem] theorem ag1 (id ep n : Nat) (ys : List D) : cpD H sz (.ref id ep n) ys = if cY sz ys = true then Ta H sz id ep n 0 n ys H[id]? else none := (rfl)
@[go_sem] theorem ag2 (id ep n lo hi : Nat) (ys : List D) : cpD H sz (.sub id ep n lo hi) ys = if cY sz ys = true then Ta H sz id ep n lo hi ys H[id]? else none := (rfl)
@[go_sem] theorem aeF (id n lo hi : Nat) (ys : List D) (ep : Nat) (es : List D) : Ta H sz id ep n lo hi ys (some (.arr sz false ep es)) =
 if n=es.length then(if min ys.length (hi-lo)=0 then some (.t (.int .i64 0),H)else some (.t (.int .i64 ((min ys.length (hi-lo):Nat):Int)),H.set id (.arr sz false ep (es.take lo++ys.take (min ys.length (hi-lo))++es.drop (lo+min ys.length (hi-lo))))))else none:=by
 simp[Ta,TV]
end
theorem Q6{n:Int}(h1:0≤n)(h2:n<18446744073709551616):IntKind.u64.wrap n=n:=by
 have e:IntKind.u64.wrap n=n % 18446744073709551616:=by simp[IntKind.wrap,IntKind.signed,IntKind.bits]
 rw[e];omega
theorem abV{n:Nat}(h:n<4294967296):IntKind.u64.wrap ((BitVec.ofInt IntKind.u64.bits (n:Int) &&& BitVec.ofInt IntKind.u64.bits 4294967295).toNat:Nat)=(n:Int):=by
 have e:(BitVec.ofInt IntKind.u64.bits (n:Int) &&& BitVec.ofInt IntKind.u64.bits 4294967295).toNat=n:=by
  rw[BitVec.toNat_and]
  have a:(BitVec.ofInt IntKind.u64.bits (n:Int)).toNat=n:=by
   rw[BitVec.ofInt_natCast,BitVec.toNat_ofNat]
   exact Nat.mod_eq_of_lt (Nat.lt_of_lt_of_le h (by decide))
  have b:(BitVec.ofInt IntKind.u64.bits 4294967295).toNat=2 ^ 32-1:=by decide
  rw[a,b,Nat.and_two_pow_sub_one_eq_mod]
  exact Nat.mod_eq_of_lt h
 rw[e]
 exact Q6 (by omega) (by omega)
theorem abW{n:Nat}(h:n<4294967296):(n:Int).fdiv (2 ^ min (32:Int).toNat IntKind.u64.bits)=0:=by
 have e:(2 ^ min (32:Int).toNat IntKind.u64.bits:Int)=4294967296:=by decide
 rw[e,Int.fdiv_eq_ediv_of_nonneg _ (by omega)]
 omega
theorem Tb{n:Nat}(h:n<4294967296):(((BitVec.ofInt IntKind.u64.bits (n:Int) &&& BitVec.ofInt IntKind.u64.bits 4294967295).toNat:Nat):Int)=(n:Int):=by
 have e:=abV h
 rwa [Q6 (by omega) (by
  have:(BitVec.ofInt IntKind.u64.bits (n:Int) &&& BitVec.ofInt IntKind.u64.bits 4294967295).toNat<2 ^ IntKind.u64.bits:=BitVec.isLt _
  have:2 ^ IntKind.u64.bits=18446744073709551616:=by decide
  omega)]at e
theorem Q7(a b:Nat)(ha:a<4294967296)(hb:b<4294967296)(h:a*b<4294967296):aE 0 N.di [.t (.int .u64 a),.t (.int .u64 b)] []=some (.tup [.t (.int .u64 0),.t (.int .u64 ((a*b:Nat):Int))],[]):=by
 refine ak K.mD rfl ?_
 have m:(a:Int)*(b:Int)=((a*b:Nat):Int):=(Int.natCast_mul a b).symm
 have z:=abV (n:=0) (by omega)
 have z2:=abW (n:=0) (by omega)
 have z3:=Tb (n:=0) (by omega)
 have g3:=fun(n:Nat) (h:n<4294967296)=>Tb (n:=n) h
 have g4:=fun(n:Nat) (h:n<4294967296)=>abW (n:=n) h
 simp only[Int.ofNat_zero,Int.natCast_zero]at z z2 z3
 simp only[go_sem]at z2 z3 g3 g4
 simp(disch:=omega)only[go_sem,K.di,↓reduceIte,g3,g4,m,z2,z3,Q6,Int.zero_mul,Int.mul_zero,Int.add_zero,Int.zero_add,Nat.reduceAdd,Nat.reduceSub]
theorem abX(a b:Nat)(ha:a<4294967296)(hb:b<4294967296)(h:a*b<4294967296):aE 0 N.dV [.t (.int .u64 a),.t (.int .u64 b)] []=some (.tup [.t (.int .u64 0),.t (.int .u64 ((a*b:Nat):Int))],[]):=by
 refine ak K.oE rfl ?_
 have m:=Q7 a b ha hb h
 simp(disch:=omega)only[go_sem,K.dV,↓reduceIte,m,Nat.reduceAdd,Nat.reduceSub]
def Aa(v:Int)(n cur:Nat):List D:=List.replicate cur (I v)++List.replicate (n-cur) (I 0)
theorem JA(v:Int){n cur:Nat}(h:cur≤n):(Aa v n cur).length=n:=by simp[Aa];omega
theorem NU(v:Int){n cur m:Nat}(h:cur+m≤n)(hm:m≤cur):(Aa v n cur).take cur++((Aa v n cur).take cur).take m++(Aa v n cur).drop (cur+m)=Aa v n (cur+m):=by
 unfold Aa
 have e1:(List.replicate cur (I v)++List.replicate (n-cur) (I 0)).take cur=List.replicate cur (I v):=by
  rw[List.take_append_of_le_length (by simp),List.take_of_length_le (by simp)]
 have e2:(List.replicate cur (I v)++List.replicate (n-cur) (I 0)).drop (cur+m)=List.replicate (n-(cur+m)) (I 0):=by
  rw[List.drop_append,List.length_replicate]
  simp;omega
 rw[e1,e2,List.take_replicate,Nat.min_eq_left hm,List.replicate_append_replicate]
theorem abY(v:Int)(n cur:Nat):∃ts:List T,Aa v n cur=ts.map .t:=⟨List.replicate cur (tI v)++List.replicate (n-cur) (tI 0),by simp[Aa]⟩
theorem FR(v:Int)(n cur:Nat)(lo k:Nat):cY 1 (((Aa v n cur).drop lo).take k)=true:=by
 cases h:((Aa v n cur).drop lo).take k with
 | nil=>rfl
 | cons d r=>
   have hm:d∈Aa v n cur:=List.mem_of_mem_drop (List.mem_of_mem_take (h▸List.mem_cons_self))
   unfold Aa at hm
   simp only[List.mem_append,List.mem_replicate]at hm
   rcases hm with⟨-,rfl⟩ | ⟨-,rfl⟩<;>rfl
theorem HY(v:Int)(n:Nat)(hn:n≤1000000):∀(k cur:Nat),n-cur≤k→1≤cur→cur≤n→
 nV true [0,1,2,3,4] (exS aE K.dj) ⟨[.und,.und,.und,.und,.und,.ref 0 0 n,I cur],[.arr 1 false 0 (Aa v n cur)]⟩=
  some (.exit 0,⟨[.und,.und,.und,.und,.und,.ref 0 0 n,I n],[.arr 1 false 0 (Aa v n n)]⟩):=by
 intro k
 induction k with
 | zero=>
   intro cur h1 h2 h3
   have:cur=n:=by omega
   subst this
   refine cN ?_ (by simp)
   have rl:=JA v (Nat.le_refl cur)
   simp(disch:=omega)only[go_sem,K.dj,↓reduceIte,Nat.reduceAdd,Nat.reduceSub]
 | succ k ih=>
   intro cur h1 h2 h3
   by_cases c:cur=n
   · subst c
     refine cN ?_ (by simp)
     simp(disch:=omega)only[go_sem,K.dj,↓reduceIte,Nat.reduceAdd,Nat.reduceSub]
   · have rl:=JA v (n:=n) (cur:=cur) (by omega)
     have st:=NU v (n:=n) (cur:=cur) (m:=min cur (n-cur)) (by omega) (by omega)
     have hs:=FR v n cur 0 cur
     rw[List.drop_zero]at hs
     have tl:((Aa v n cur).take cur).length=cur:=by rw[List.length_take];omega
     refine jO (st2:=⟨[.und,.und,.und,.und,.und,.ref 0 0 n,I ((cur+min cur (n-cur):Nat):Int)],[.arr 1 false 0 (Aa v n (cur+min cur (n-cur)))]⟩) ?_ (ih _ (by omega) (by omega) (by omega))
     rw[← st]
     obtain⟨ts,hts⟩:=abY v n cur
     have ao:∀a b c:Nat,ie 1 8 ((Aa v n cur).take a)=true∧ie 1 8 (((Aa v n cur).take a).take b)=true∧ie 1 8 ((Aa v n cur).drop c)=true:=fun a b c=>by
      rw[hts,←List.map_take,←List.map_take,←List.map_drop]
      simp only[go_sem,and_self]
     have ao1:=fun a=>(ao a 0 0).1
     have ao2:=fun a b=>(ao a b 0).2.1
     have ao3:=fun c=>(ao 0 0 c).2.2
     clear ao hts
     generalize Aa v n cur=es at*
     simp(disch:=omega)only[go_sem,K.dj,↓reduceIte,rl,hs,tl,ao1,ao2,ao3,and_self,List.drop_zero,Nat.sub_zero,Nat.reduceAdd,Nat.reduceSub]
theorem FT(v:Int)(n:Nat)(h1:1≤n)(hn:n≤1000000):aE 1 N.aZ [.t (tL [v]),I n] []=some (.ref 0 0 n,[.arr 1 false 0 (List.replicate n (I v))]):=by
 refine ak K.iR rfl ?_
 have m:=abX 1 n (by omega) (by omega) (by omega)
 rw[Nat.one_mul]at m
 change aE 0 N.dV [.t (.int .u64 1),.t (.int .u64 n)] []=_ at m
 have w1:IntKind.u64.wrap 1=1:=by decide
 have w2:IntKind.u64.wrap (n:Int)=n:=Q6 (by omega) (by omega)
 have w3:IntKind.i64.wrap (n:Int)=n:=yn (by omega) (by omega)
 have lp:=HY v n hn n 1 (by omega) (by omega) h1
 have loop:∀z0 z1 z2 z3 z4:D,exS aE K.kT ⟨[z0,z1,z2,z3,z4,.ref 0 0 n,I 1],[.arr 1 false 0 (I v::List.replicate (n-1) (I 0))]⟩=some (.exit 0,⟨[.und,.und,.und,.und,.und,.ref 0 0 n,I n],[.arr 1 false 0 (List.replicate n (I v))]⟩):=by
  intro z0 z1 z2 z3 z4
  have e1:Aa v n 1=I v::List.replicate (n-1) (I 0):=rfl
  have e2:Aa v n n=List.replicate n (I v):=by simp[Aa]
  rw[e1,e2]at lp
  exact lp
 have dr:(List.replicate n (D.t (.int .i64 0))).drop 1=List.replicate (n-1) (I 0):=List.drop_replicate ..
 have mn:min 1 n=1:=by omega
 have ar:∀H:ai,uH H 8 (List.replicate n (I v))=[]:=fun H=>by
  have e:List.replicate n (I v)=(List.replicate n (tI v)).map D.t:=by simp
  rw[e]
  unfold uH
  exact Fy ..
 simp(disch:=omega)only[go_sem,K.aZ,↓reduceIte,tL,List.map_cons,List.map_nil,m,w1,w2,w3,loop,dr,mn,ar,List.length_replicate,Nat.sub_zero,List.take_zero,List.nil_append,List.take_succ_cons,Nat.zero_add,Nat.reduceAdd,Nat.reduceSub]
end Go.Ev
namespace Go.Ev
open Go
variable [Lib] [bW] [bL]
structure Spn where
 low:Int
 high:Int
instance : Dat Spn := ⟨⟨0, 0⟩⟩
abbrev Spn.e(f:Spn):T:= .agg [tI f.low,tI f.high]
def Spn.ok(f:Spn):Prop:= -1125899906842624≤f.low∧f.high≤1125899906842624∧f.low≤f.high
instance (f : Spn) : Decidable f.ok := by unfold Spn.ok; infer_instance
def NV(m:aM)(l:List Spn):Bool:=(List.range l.length).all (fun j=>decide (nth l j).ok)&&decide (l.length=m.roads.length)
def yB(x:Road)(f:Spn)(back:Bool):Int:=
 if x.closed=true then -1 else
 let g:=if back then -f.low else f.high
 let out:=if 0<g then(x.len*x.area*1000).tdiv g else -1
 if(if back then f.low<500*x.area else -500*x.area<f.high)∧(out<0∨x.len<out)then x.len else out
def abZ(l:List Int)(p q:Nat)(t:Int):Bool:=decide (0≤t∧nth l p+t<nth l q)
def ag3(l:List Int)(p q:Nat)(t:Int):List Int:=if abZ l p q t=true then l.set q (nth l p+t)else l
def Tc(m:aM)(fl:List Spn)(k:Nat)(back:Bool)(l:List Int):List Int×Bool:=
 (ag3 l ((nth m.roads k).src back).toNat ((nth m.roads k).dst back).toNat (yB (nth m.roads k) (nth fl k) back),abZ l ((nth m.roads k).src back).toNat ((nth m.roads k).dst back).toNat (yB (nth m.roads k) (nth fl k) back))
def ab0(m:aM)(fl:List Spn)(k:Nat)(s:List Int×Bool):List Int×Bool:=
 let a:=Tc m fl k false s.1
 let b:=Tc m fl k true a.1
 (b.1,s.2||a.2||b.2)
def NW(m:aM)(fl:List Spn)(l:List Int):Nat→List Int×Bool
 | 0=>(l,false)
 | k+1=>ab0 m fl k (NW m fl l k)
def V4(m:aM)(fl:List Spn)(l:List Int):List Int×Bool:=NW m fl l m.roads.length
section
variable {m : aM} (h : m.ok) {fl : List Spn}
include h
end
def aeG(l:List Int):Nat→List Int
 | 0=>l
 | j+1=>if 2147483648<nth (aeG l j) j then(aeG l j).set j 1099511627776 else aeG l j
def Td(m:aM)(fl:List Spn)(l:List Int):List Int:=aeG (iK (V4 m fl) (vd l+1) l) m.places.length
end Go.Ev
namespace Go.Ev
open Go
variable [Lib] [bW] [bL]
def plS(t x:Int):Prop:=x=1099511627776∨(t≤x∧x≤2147483648)
instance (t x : Int) : Decidable (plS t x) := by unfold plS; infer_instance
def NX(m:aM)(s:Wh):Bool:=(List.range s.frm.length).all (fun j=>decide (plS s.time (nth s.frm j)))&&decide (s.frm.length=m.places.length∧inT s.time)
def ag4(l:List Int)(t:Int)(n:Nat):List Int:=(List.range n).map fun(p:Nat)=>if(p:Int)∈l then t else 1099511627776
def ab1(m:aM)(fl:List Spn)(l:List Int)(t:Int):Wh×Int:=
 if NV m fl=false then(⟨0,[]⟩,6)else if tw l m.places.length=false then(⟨0,[]⟩,3)else if ¬inT t then(⟨0,[]⟩,8)else
 (⟨t,Td m fl (ag4 l t m.places.length)⟩,0)
def Te(m:aM)(fl:List Spn)(frm:List Int)(t:Int)(k:Nat)(back:Bool)(l:List Int):List Int:=
 if nth frm ((nth m.roads k).src back).toNat≤t∧0≤yB (nth m.roads k) (nth fl k) back then l.set ((nth m.roads k).dst back).toNat (min (nth l ((nth m.roads k).dst back).toNat) t)else l
def ab2(m:aM)(fl:List Spn)(frm:List Int)(t:Int)(k:Nat)(l:List Int):List Int:=Te m fl frm t k true (Te m fl frm t k false l)
def chN(m:aM)(fl:List Spn)(frm:List Int)(t:Int):Nat→List Int
 | 0=>frm
 | k+1=>ab2 m fl frm t k (chN m fl frm t k)
def ag5(t:Int)(l:List Int):Nat→List Int
 | 0=>l
 | k+1=>(ag5 t l k).set k (max (nth (ag5 t l k) k) t)
def V5(m:aM)(old:List Spn)(next:aM)(fl:List Spn)(s:Wh)(t:Int):Wh×Int:=
 if NX m s=false∨NV m old=false∨NV next fl=false∨next.places.length≠m.places.length then(s,6)else
 if t<s.time∨2147483648<t then(s,8)else(⟨t,Td next fl (ag5 t (chN m old s.frm t m.roads.length) m.places.length)⟩,0)
end Go.Ev
namespace Go.Ev
open Go
variable [Lib] [bW] [bL] [fM] [fN]
theorem FU(a b lo hi:Int)(h1:lo≤a)(h2:a≤b)(h3:b≤hi):aE 0 N.gq [.t (.agg [tI a,tI b]),I lo,I hi] []=some (B true,[]):=by
 refine ak K.rE rfl ?_
 simp(disch:=omega)only[go_sem,K.gq,↓reduceIte,Nat.reduceAdd,Nat.reduceSub]
theorem FV{m:aM}(h:m.ok):aE 0 N.jf [.t m.e] []=some (I 0,[]):=by
 refine ak K.tB rfl ?_
 have np:=h.np
 have nr:=h.nr
 have hs:=h.hs
 have rs:=h.rs
 obtain⟨places,roads⟩:=m
 simp only at np nr hs rs
 have l1:∀z0 z2 z3 z4 z5 z9 z10 z11:D,exS aE K.xv ⟨[z0,.bp 0 0,z2,z3,z4,z5,.t (.sl (places.map Place.e)),I places.length,I 0,z9,z10,z11],[.box (aa ⟨places,roads⟩)]⟩=
  some (.exit 0,⟨[.und,.bp 0 0,.und,.und,.und,.und,.t (.sl (places.map Place.e)),I places.length,I places.length,.und,.und,.und],[.box (aa ⟨places,roads⟩)]⟩):=by
  intro z0 z2 z3 z4 z5 z9 z10 z11
  refine bR (fun j=>⟨[.und,.bp 0 0,.und,.und,.und,.und,.t (.sl (places.map Place.e)),I places.length,I j,.und,.und,.und],[.box (aa ⟨places,roads⟩)]⟩) places.length rfl ?_ ?_ (by simp)
  · intro j hj
    have g:(places.map Place.e)[j]?=some (nth places j).e:=bP _ hj
    have q:=hs _ (ae hj)
    generalize nth places j=x at*
    obtain⟨hh,sf⟩:=x
    simp only[aa]at*
    simp(disch:=omega)only[go_sem,K.pS,↓reduceIte,g,Nat.reduceAdd,Nat.reduceSub]
  · simp(disch:=omega)only[go_sem,K.pS,↓reduceIte,aa,Nat.reduceAdd,Nat.reduceSub]
 have l2:∀z0 z1 z2 z3 z5 z6 z7 z8:D,exS aE K.xx ⟨[z0,z1,z2,z3,I places.length,z5,z6,z7,z8,.t (.sl (roads.map Road.e)),I roads.length,I 0],[.box (aa ⟨places,roads⟩)]⟩=
  some (.exit 2,⟨[.und,.und,.und,.und,I places.length,.und,.und,.und,.und,.t (.sl (roads.map Road.e)),I roads.length,I roads.length],[.box (aa ⟨places,roads⟩)]⟩):=by
  intro z0 z1 z2 z3 z5 z6 z7 z8
  refine bR (fun j=>⟨[.und,.und,.und,.und,I places.length,.und,.und,.und,.und,.t (.sl (roads.map Road.e)),I roads.length,I j],[.box (aa ⟨places,roads⟩)]⟩) roads.length rfl ?_ ?_ (by simp)
  · intro j hj
    have g:(roads.map Road.e)[j]?=some (nth roads j).e:=bP _ hj
    have q:=rs _ (ae hj)
    generalize nth roads j=x at*
    have f0:=q.f0;have f1:=q.f1;have t0:=q.t0;have t1:=q.t1;have ne:=q.ne;have l0:=q.l0;have l1:=q.l1;have a0:=q.a0;have a1:=q.a1
    have r0:=q.r0;have r1:=q.r1;have r2:=q.r2;have i0:=q.i0;have i1:=q.i1;have i2:=q.i2
    clear q
    obtain⟨frm,to,len,area,walk,closed,rl,rh,ll,lh⟩:=x
    simp only[aa]at*
    have s1:=FU rl rh 1 262144 r0 r1 r2
    have s2:=FU ll lh (-2199023255552) 2199023255552 i0 i1 i2
    simp(disch:=omega)only[go_sem,K.pT,↓reduceIte,g,s1,s2,Nat.reduceAdd,Nat.reduceSub]
  · simp(disch:=omega)only[go_sem,K.pT,↓reduceIte,aa,Nat.reduceAdd,Nat.reduceSub]
 simp only[aa]at l1 l2
 simp(disch:=omega)only[go_sem,K.jf,↓reduceIte,l1,l2,Nat.reduceAdd,Nat.reduceSub]
theorem jH{m:aM}(h:m.ok):aE 0 N.eG [.t m.e] []=some (B true,[]):=by
 refine ak K.tA rfl ?_
 have c:=FV h
 obtain⟨places,roads⟩:=m
 simp(disch:=omega)only[go_sem,K.eG,↓reduceIte,c,Nat.reduceAdd,Nat.reduceSub]
end Go.Ev
namespace Go.Ev.N
def KU:Nat:=178
def KV:Nat:=179
def Mc:Nat:=180
def KW:Nat:=181
def Md:Nat:=182
def NY:Nat:=183
def Me:Nat:=184
def V6:Nat:=185
def Tf:Nat:=186
def V7:Nat:=187
def NZ:Nat:=188
def gr:Nat:=189
def eW:Nat:=190
def Tg:Nat:=191
def Zg:Nat:=192
def Q8:Nat:=193
def dG:Nat:=194
def V8:Nat:=195
def iD:Nat:=196
def ab3:Nat:=197
def PS:Nat:=198
def cA:Nat:=199
def eH:Nat:=200
def cP:Nat:=201
def aY:Nat:=202
def Th:Nat:=203
def aV:Nat:=204
def cq:Nat:=205
def V9:Nat:=206
def Ti:Nat:=207
def dk:Nat:=208
def bh:Nat:=209
def bS:Nat:=210
def iZ:Nat:=211
def ke:Nat:=212
def eX:Nat:=213
def jg:Nat:=214
end Go.Ev.N
namespace Go.Ev.K
open Go.Ev
def oF:C:=(.its [u (.bin .lss v11 v10)] [] 0 .skip (.exit 0) (.seq (.blk 1 (.seq (.reg [m v11,a 1 v9 v11,g l0,w 7 (.mv l2),w 8 (.mv l1)] []) (.reg [f 1 v6,g l0,m v8,f 1 v3,g l0,m v7,a 1 l1 l0,g l0,u (.mn [.l 5,.l 0]),u (.bs [.l 0] 1),u (.app l8 l0 true 1),f 1 v6,u (.st l0 l1 1 [])] [(1,10)]))) (.reg [u (.bin .add v11 (.i 1)),w 11 (.mv l0)] [])))
def vf:C:= .loop true [0,1,2,5,7,8] K.oF
def gr:Fn:={ nargs:=2,vars:=[0,1,2,3,4,5,6,7,8,24,25,26],body:=(.seq (.reg [w 2 (.bx v0 2),w 3 (.bx v1 2),w 4 (.al [.t (.int .i64 (0)),.nil] []),w 5 (.mv (.i 0))] []) (.seq (.ite [f 1 v2,g l0,u (.ln l0),f 1 v3,g l0,u (.ln l0),u (.bin .neq l3 l0)] [] 0 (.seq (.reg [u (.bd [.t (.int .i64 (0)),.nil] []),u (.st v4 l0 2 []),w 5 (.mv (.i 6))] []) .ret) .skip) (.seq (.reg [f 0 v2,g l0,f 0 v3,g l0,u (.mx [.l 2,.l 0]),u (.bd [.t (.int .i64 (0)),.nil] [(0,1,.l 0)]),w 6 (.al [.t (.int .i64 (0)),.nil] [(1,1)]),u (.st l0 l1 2 [(1,1)])] []) (.seq (.seq (.reg [f 1 v2,w 9 (.ld l0 1 false),w 10 (.ln l0),w 11 (.mv (.i 0))] []) (.blk 0 K.vf)) (.seq (.reg [h 2 v6,u (.st v4 l0 2 []),w 5 (.mv (.i 0))] []) .ret))))),res:=[(4,some (2,true)),(5,none)]}
def eW:Fn:={ nargs:=2,vars:=[0,1,2,3,4],body:=(.seq (.reg [w 2 (.bx v0 2),w 3 (.bx v1 2),w 4 (.mv (.b false))] []) (.seq (.reg [h 2 v2,u (.ca N.eG 0 [] [.l 0]),m l0,y 0 true (.ld v2 2 true),y 1 true (.ld v3 2 true),y 2 true (.ca N.cP 0 [] [.l 1,.l 0]),u (.pk l3 l0 (.b false)),m l0,y 0 true (.ld v2 2 true),y 1 true (.fa v3 1),y 2 true (.ld l0 1 false),y 3 true (.fa v3 0),y 4 true (.ld l0 1 false),y 5 true (.ca N.cA 0 [] [.l 4,.l 2,.l 0,.c (.fn N.eH [])]),y 6 true (.fa v3 1),y 7 true (.ld l0 1 false),y 8 true (.ca N.aY 0 [] [.l 2,.l 0]),u (.pk l9 l0 (.b false)),w 4 (.mv l0)] [(15,6)]) .ret)),res:=[(4,none)]}
end Go.Ev.K
namespace Go.Ev
class iI [Lib]:Prop where
 rF:Lib.fs N.gr=some K.gr
 pU:Lib.fs N.eW=some K.eW
namespace K
variable [Lib] [iI]
theorem rF:Lib.fs N.gr=some K.gr:=iI.rF
theorem pU:Lib.fs N.eW=some K.eW:=iI.pU
end K
end Go.Ev
namespace Go.Ev.K
open Go.Ev
def dG:Fn:={ nargs:=3,vars:=[0,1,2,3,4,6,7],body:=(.seq (.reg [w 3 (.bx v0 2),w 4 (.bx v1 2),w 5 (.al [.t (.int .i64 (0)),.nil] []),w 6 (.mv (.i 0))] []) (.seq (.ite [h 2 v3,u (.ca N.eG 0 [] [.l 0]),u (.un .not l0),m l0,y 0 false (.ld v3 2 true),y 1 false (.ld v4 2 true),y 2 false (.ca N.cP 0 [] [.l 1,.l 0]),y 3 false (.un .not l0),u (.pk l4 (.b true) l0)] [] 0 (.seq (.reg [h 2 v4,u (.st v5 l0 2 []),w 6 (.mv (.i 6))] []) .ret) .skip) (.seq (.ite [m v2,f 0 v4,g l0,u (.bin .lss l2 l0),m l0,y 0 false (.mv v2),y 1 false (.bin .gtr l0 (.i 2147483648)),u (.pk l2 (.b true) l0)] [] 0 (.seq (.reg [h 2 v4,u (.st v5 l0 2 []),w 6 (.mv (.i 8))] []) .ret) .skip) (.seq (.reg [m v2,h 2 v3,f 1 v4,g l0,m v2,u (.ca N.cA 0 [] [.l 3,.l 1,.l 0,.c (.fn N.eH [])]),u (.bd [.t (.int .i64 (0)),.nil] [(0,1,.l 5),(1,1,.l 0)]),u (.st v5 l0 2 []),w 6 (.mv (.i 0))] []) .ret)))),res:=[(5,some (2,true)),(6,none)]}
def iD:Fn:={ nargs:=2,vars:=[0,1,2,3,4],body:=(.seq (.reg [w 2 (.bx v0 2),w 3 (.bx v1 2),w 4 (.mv (.b false))] []) (.seq (.reg [f 0 v2,g l0,f 0 v3,g l0,u (.bin .eql l2 l0),m l0,y 0 true (.fa v2 1),y 1 true (.ld l0 1 false),y 2 true (.fa v3 1),y 3 true (.ld l0 1 false),y 4 true (.ca N.bI 0 [] [.l 2,.l 0]),u (.pk l5 l0 (.b false)),w 4 (.mv l0)] []) .ret)),res:=[(4,none)]}
def c8:C:=(.seq (.ite [g v9] [] 0 .skip (.exit 0)) (.seq (.blk 1 (.seq (.reg [u (.st v9 (.b false) 1 [])] []) (.reg [h 2 v4,g v8,u (.mf N.bh [.v 5,.v 8,.v 6,.v 9]),u (.ca N.dk 0 [1] [.l 2,.l 1,.l 0])] []))) (.seq (.reg [w 10 (.ld v9 1 false)] []) (.reg [w 9 (.al [.t (.bool false)] []),u (.st l0 v10 1 [])] []))))
def mE:C:= .loop false [0,1,2,3,7,10] K.c8
def cA:Fn:={ nargs:=4,vars:=[0,1,2,3,4,6,7,8,9,10,18],body:=(.seq (.reg [w 4 (.bx v0 2),w 5 (.bx v2 1),w 6 (.bx v3 1),w 7 (.mv (.c (.nil)))] []) (.seq (.reg [m v1,u (.ca N.aV 1 [] [.l 0]),w 8 (.al [.nil] []),u (.st l0 l1 1 [])] []) (.seq (.seq (.reg [w 9 (.al [.t (.bool false)] []),u (.st l0 (.b true) 1 [])] []) (.blk 0 K.mE)) (.seq (.reg [g v8,w 7 (.mv l0)] []) .ret)))),res:=[(7,none)]}
def eH:Fn:={ nargs:=1,vars:=[2],body:=(.seq (.reg [w 0 (.mv (.b false))] []) (.seq (.reg [w 0 (.mv (.b true))] []) .ret)),res:=[(0,none)]}
def cP:Fn:={ nargs:=2,vars:=[0,1,2,3,4],body:=(.seq (.reg [w 2 (.bx v0 2),w 3 (.bx v1 2),w 4 (.mv (.b false))] []) (.seq (.reg [f 1 v3,g l0,u (.ln l0),f 0 v2,g l0,u (.ln l0),u (.bin .eql l3 l0),m l0,y 0 true (.fa v3 0),y 1 true (.ld l0 1 false),y 2 true (.ca N.fg 0 [] [.l 0,.i 0,.i 2147483648]),u (.pk l3 l0 (.b false)),m l0,y 0 true (.fa v3 1),y 1 true (.ld l0 1 false),y 2 true (.ca N.az 0 [] [.l 0,.c (.fn N.bS [])]),y 3 true (.un .not l0),u (.pk l4 l0 (.b false)),w 4 (.mv l0)] []) .ret)),res:=[(4,none)]}
def fp:C:=(.its [u (.bin .lss v5 v4)] [] 0 .skip (.exit 0) (.seq (.blk 1 (.seq (.reg [m v5,w 3 (.mv l0)] []) (.ite [m v0,m v3,a 1 l1 l0,g l0,m v1,m v3,a 1 l1 l0,g l0,u (.bin .neq l4 l0)] [] 0 (.seq (.reg [w 2 (.mv (.b false))] []) .ret) .skip))) (.reg [u (.bin .add v5 (.i 1)),w 5 (.mv l0)] [])))
def lK:C:= .loop true [2,3] K.fp
def aY:Fn:={ nargs:=2,vars:=[0,1,4,5,12,13],body:=(.seq (.reg [w 2 (.mv (.b false))] []) (.seq (.ite [m v0,u (.ln l0),m v1,u (.ln l0),u (.bin .neq l2 l0)] [] 0 (.seq (.reg [w 2 (.mv (.b false))] []) .ret) .skip) (.seq (.seq (.reg [m v0,w 4 (.ln l0),w 5 (.mv (.i 0))] []) (.blk 0 K.lK)) (.seq (.reg [w 2 (.mv (.b true))] []) .ret)))),res:=[(2,none)]}
def aV:Fn:={ nargs:=1,vars:=[0,2],body:=(.seq (.reg [w 1 (.mv (.c (.nil)))] []) (.itk [m v0,u (.eqk (.sl) false l0 (.c (.nil)))] [] 0 (.seq (.reg [w 1 (.nw 1)] []) .ret) .skip (.seq (.reg [u (.bsr [] 1),m v0,u (.app l1 l0 false 1),w 1 (.mv l0)] []) .ret))),res:=[(1,none)]}
def cq:Fn:={ nargs:=2,vars:=[0,1,3],body:=(.seq (.reg [w 2 (.mv (.b false))] []) (.seq (.reg [g v1,m v0,u (.ca N.aO 0 [] [.l 1,.l 0]),w 2 (.mv l0)] []) .ret)),res:=[(2,none)]}
def eI:C:=(.its [u (.bin .lss v14 (.i 2))] [] 0 .skip (.exit 2) (.seq (.blk 3 (.seq (.reg [u (.ix v13 v14 2 1 false),w 6 (.mv l0)] []) (.seq (.reg [f 0 v5,g l0,f 1 v5,g l0,w 7 (.mv l2),w 8 (.mv l1)] []) (.seq (.ite [m v6] [] 0 (.reg [m v8,m v7,w 7 (.mv l1),w 8 (.mv l1)] []) .skip) (.seq (.reg [h 2 v3,m v4,m v6,u (.ca N.iZ 0 [] [.l 2,.l 1,.l 0]),w 9 (.mv l0)] []) (.ite [m v9,u (.bin .geq l0 (.i 0)),m l0,y 0 true (.mv v1),y 1 true (.mv v7),y 2 true (.ia l1 l0 1),y 3 true (.ld l0 1 false),y 4 true (.bin .lss l0 (.i 1099511627776)),u (.pk l5 l0 (.b false))] [] 0 (.reg [m v2,m v7,m v8,m v1,m v7,a 1 l1 l0,g l0,m v9,u (.bin .add l1 l0),u (.cw l8 0 [] [.l 7,.l 6,.l 0])] []) .skip)))))) (.reg [u (.bin .add v14 (.i 1)),w 14 (.mv l0)] [])))
def pj:C:= .loop true [0,6,7,8,9] K.eI
def iS:C:=(.its [u (.bin .lss v12 v11)] [] 0 .skip (.exit 0) (.seq (.blk 1 (.seq (.reg [m v12,a 10 v10 v12,h 10 l0,w 5 (.al [.t (.int .i64 (0)),.t (.int .i64 (0)),.t (.int .i64 (0)),.t (.int .i64 (0)),.t (.bool false),.t (.bool false),.t (.int .i64 (0)),.t (.int .i64 (0)),.t (.int .i64 (0)),.t (.int .i64 (0))] []),w 4 (.mv l3),u (.st l1 l2 10 [])] []) (.seq (.reg [w 13 (.bd [.t (.bool false),.t (.bool false)] [(0,1,.b false),(1,1,.b true)]),w 14 (.mv (.i 0))] []) (.blk 2 K.pj)))) (.reg [u (.bin .add v12 (.i 1)),w 12 (.mv l0)] [])))
def pn:C:= .loop true [0,4,5,6,7,8,9,13,14] K.iS
def dk:Fn:={ nargs:=3,vars:=[0,1,2,3,6,7,9,10,11,12,14,15,16,21,22],body:=(.seq (.reg [w 3 (.bx v0 2)] []) (.seq (.reg [f 1 v3,w 10 (.ld l0 1 false),w 11 (.ln l0),w 12 (.mv (.i 0))] []) (.blk 0 K.pn))),res:=[]}
def bh:Fn:={ nargs:=7,vars:=[1,2,3,4,5,6],body:=(.seq (.reg [m v1,g v2,u (.mx [.l 1,.l 0]),w 1 (.mv l0)] []) (.ite [m v1,u (.bin .leq l0 (.i 2147483648)),m l0,y 0 true (.mv v1),y 1 true (.ld v3 1 false),y 2 true (.mv v0),y 3 true (.ia l1 l0 1),y 4 true (.ld l0 1 false),y 5 true (.bin .lss l4 l0),u (.pk l6 l0 (.b false)),m l0,y 0 true (.ld v4 1 false),y 1 true (.mv v0),y 2 true (.cw l1 0 [] [.l 0]),u (.pk l3 l0 (.b false))] [] 0 (.reg [g v3,m v0,m v1,a 1 l2 l1,u (.st l0 l1 1 []),u (.st v5 (.b true) 1 [])] []) .skip)),res:=[]}
def bS:Fn:={ nargs:=1,vars:=[0,2],body:=(.seq (.reg [w 1 (.mv (.b false))] []) (.seq (.reg [m v0,u (.bin .neq l0 (.i 1099511627776)),m l0,y 0 true (.mv v0),y 1 true (.ca N.fg 0 [] [.l 0,.i 0,.i 2147483648]),y 2 true (.un .not l0),u (.pk l3 l0 (.b false)),w 1 (.mv l0)] []) .ret)),res:=[(1,none)]}
def iZ:Fn:={ nargs:=3,vars:=[0,1,2,3,6],body:=(.seq (.reg [w 3 (.bx v0 2),w 4 (.mv (.i 0))] []) (.seq (.ite [h 2 v3,u (.ca N.eG 0 [] [.l 0]),u (.un .not l0),m l0,y 0 false (.mv v1),y 1 false (.bin .lss l0 (.i 0)),u (.pk l2 (.b true) l0),m l0,y 0 false (.mv v1),y 1 false (.fa v3 1),y 2 false (.ld l0 1 false),y 3 false (.ln l0),y 4 false (.bin .geq l3 l0),u (.pk l5 (.b true) l0)] [] 0 (.seq (.reg [w 4 (.mv (.i (-1)))] []) .ret) .skip) (.seq (.reg [h 2 v3,m v1,m v2,u (.ca N.ke 0 [] [.l 2,.l 1,.l 0]),w 4 (.mv l0)] []) .ret))),res:=[(4,none)]}
def ke:Fn:={ nargs:=3,vars:=[0,1,2,3,6],body:=(.seq (.reg [w 3 (.bx v0 2),w 4 (.mv (.i 0))] []) (.seq (.reg [h 2 v3,m v1,m v2,u (.ca N.jg 0 [] []),u (.ca N.eX 0 [] [.l 3,.l 2,.l 1,.l 0]),w 4 (.mv l0)] [(0,4)]) .ret)),res:=[(4,none)]}
def eX:Fn:={ nargs:=4,vars:=[0,1,2,3,4,7,8,9,10,11],body:=(.seq (.reg [w 4 (.bx v0 2),w 5 (.bx v3 3),w 6 (.mv (.i 0))] []) (.seq (.reg [f 1 v4,g l0,m v1,a 10 l1 l0,h 10 l0,w 7 (.al [.t (.int .i64 (0)),.t (.int .i64 (0)),.t (.int .i64 (0)),.t (.int .i64 (0)),.t (.bool false),.t (.bool false),.t (.int .i64 (0)),.t (.int .i64 (0)),.t (.int .i64 (0)),.t (.int .i64 (0))] []),u (.st l0 l1 10 [])] []) (.seq (.ite [f 5 v7,g l0,m l0,y 0 false (.fa v7 4),y 1 false (.ld l0 1 false),y 2 false (.un .not l0),u (.pk l3 (.b true) l0)] [] 0 (.seq (.reg [w 6 (.mv (.i (-1)))] []) .ret) .skip) (.seq (.reg [f 0 v4,g l0,f 1 v7,g l0,a 2 l2 l0,f 0 l0,g l0,f 0 v4,g l0,f 0 v7,g l0,a 2 l2 l0,f 0 l0,g l0,u (.bin .sub l7 l0),w 8 (.mv l0)] []) (.seq (.ite [m v2] [] 0 (.reg [m v8,u (.un .neg l0),w 8 (.mv l0)] []) .skip) (.seq (.reg [f 2 v5,g l0,w 9 (.mv l0)] []) (.seq (.blk 0 (.ite [m v8,u (.bin .mul (.i 10) l0),f 2 v7,g l0,u (.bin .gtr l2 l0),m l0] [] 0 (.reg [f 0 v5,g l0,w 9 (.mv l0)] []) (.ite [m v8,u (.bin .mul (.i (-10)) l0),f 2 v7,g l0,u (.bin .gtr l2 l0),m l0] [] 0 (.reg [f 1 v5,g l0,w 9 (.mv l0)] []) .skip))) (.seq (.reg [f 2 v7,g l0,u (.bin .mul (.i 10) l0),m v9,u (.bin .add l1 l0),u (.bin .sub l0 (.i 1)),m v9,u (.bin .quo l1 l0),w 6 (.mv l0)] []) .ret)))))))),res:=[(6,none)]}
def jg:Fn:={ nargs:=0,vars:=[0],body:=(.seq (.reg [w 0 (.al [.t (.int .i64 (0)),.t (.int .i64 (0)),.t (.int .i64 (0))] [])] []) (.seq (.reg [u (.bd [.t (.int .i64 (0)),.t (.int .i64 (0)),.t (.int .i64 (0))] [(0,1,.i 6),(1,1,.i 9),(2,1,.i 12)]),u (.st v0 l0 3 [])] []) .ret)),res:=[(0,some (3,true))]}
end Go.Ev.K
namespace Go.Ev
class gu [Lib]:Prop where
 pV:Lib.fs N.dG=some K.dG
 tC:Lib.fs N.iD=some K.iD
 kv:Lib.fs N.cA=some K.cA
 tD:Lib.fs N.eH=some K.eH
 oG:Lib.fs N.cP=some K.cP
 jj:Lib.fs N.aY=some K.aY
 jk:Lib.fs N.aV=some K.aV
 mF:Lib.fs N.cq=some K.cq
 mG:Lib.fs N.dk=some K.dk
 lL:Lib.fs N.bh=some K.bh
 mH:Lib.fs N.bS=some K.bS
 vX:Lib.fs N.iZ=some K.iZ
 vY:Lib.fs N.ke=some K.ke
 vZ:Lib.fs N.eX=some K.eX
 tE:Lib.fs N.jg=some K.jg
namespace K
variable [Lib] [gu]
theorem pV:Lib.fs N.dG=some K.dG:=gu.pV
theorem tC:Lib.fs N.iD=some K.iD:=gu.tC
theorem kv:Lib.fs N.cA=some K.cA:=gu.kv
theorem tD:Lib.fs N.eH=some K.eH:=gu.tD
theorem oG:Lib.fs N.cP=some K.cP:=gu.oG
theorem jj:Lib.fs N.aY=some K.aY:=gu.jj
theorem jk:Lib.fs N.aV=some K.aV:=gu.jk
theorem mF:Lib.fs N.cq=some K.cq:=gu.mF
theorem mG:Lib.fs N.dk=some K.dk:=gu.mG
theorem lL:Lib.fs N.bh=some K.bh:=gu.lL
theorem mH:Lib.fs N.bS=some K.bS:=gu.mH
theorem vX:Lib.fs N.iZ=some K.iZ:=gu.vX
theorem vY:Lib.fs N.ke=some K.ke:=gu.vY
theorem vZ:Lib.fs N.eX=some K.eX:=gu.vZ
theorem tE:Lib.fs N.jg=some K.jg:=gu.tE
end K
end Go.Ev
namespace Go.Ev
open Go
variable [Lib] [bW] [bL] [fM] [fN] [iI] [gu]
abbrev G8(l:List Int):Obj:= .arr 1 false 0 ((l.map (T.int .i64)).map .t)
theorem A2(l:List Int)(hl:l.length≤1000000):aE 1 N.aV [.t (tL l)] []=some (.ref 0 0 l.length,[G8 l]):=by
 refine ak K.jk rfl ?_
 by_cases h0:l=[]
 · subst h0
   simp only[tL,List.map_nil]
   simp(disch:=omega)only[go_sem,K.aV,↓reduceIte,List.map_nil,List.length_nil,Nat.reduceAdd,Nat.reduceSub]
   rfl
 · have e:=fun H=>zW H (l.map (T.int .i64)) (by simpa using h0)
   simp(disch:=omega)only[go_sem,K.aV,↓reduceIte,e,Nat.reduceAdd,Nat.reduceSub]
theorem Ab(a b:List Int)(hl:a.length≤4294967296)(hl2:b.length≤4294967296):aE 0 N.aY [.t (tL a),.t (tL b)] []=some (B (decide (a=b)),[]):=by
 refine ak K.jj rfl ?_
 by_cases hlen:a.length=b.length
 · have loop:∀z2 z3:D,exS aE K.lK ⟨[.t (tL a),.t (tL b),z2,z3,I a.length,I 0],[]⟩=
    some (match (List.range a.length).find? (fun j=>decide (nth a j≠nth b j))with
     | some j=>(.ret,⟨[.t (tL a),.t (tL b),B false,I j,I a.length,I j],[]⟩)
     | none=>(.exit 0,⟨[.t (tL a),.t (tL b),.und,.und,I a.length,I a.length],[]⟩)):=by
    intro z2 z3
    refine cE (fun j=>⟨[.t (tL a),.t (tL b),.und,.und,I a.length,I j],[]⟩) a.length (fun j=>decide (nth a j≠nth b j)) _ _ rfl ?_ ?_ ?_ (by simp)
    · intro j hj hp
      have hp:nth a j=nth b j:=by simpa using hp
      simp(disch:=omega)only[go_sem,K.fp,↓reduceIte,Nat.reduceAdd,Nat.reduceSub]
    · intro j hj hp
      have hp:nth a j≠nth b j:=by simpa using hp
      simp(disch:=omega)only[go_sem,K.fp,↓reduceIte,Nat.reduceAdd,Nat.reduceSub]
      simp
    · simp(disch:=omega)only[go_sem,K.fp,↓reduceIte,Nat.reduceAdd,Nat.reduceSub]
   have e:(a=b)↔(List.range a.length).find? (fun j=>decide (nth a j≠nth b j))=none:=by
    rw[List.find?_eq_none]
    constructor
    · intro h j _;simp[h]
    · intro h
      apply List.ext_getElem?
      intro j
      by_cases hj:j<a.length
      · rw[fQ hj,fQ (by omega)]
        have:=h j (List.mem_range.2 hj)
        simpa using this
      · rw[List.getElem?_eq_none (by omega),List.getElem?_eq_none (by omega)]
   cases hf:(List.range a.length).find? (fun j=>decide (nth a j≠nth b j))with
   | some j=>
     rw[hf]at e loop
     have e:¬a=b:=fun h=>by have:=e.1 h;cases this
     simp(disch:=omega)only[go_sem,K.aY,↓reduceIte,loop,e,decide_false,Nat.reduceAdd,Nat.reduceSub]
   | none=>
     rw[hf]at e loop
     have e:a=b:=e.2 rfl
     simp(disch:=omega)only[go_sem,K.aY,↓reduceIte,loop,decide_eq_true e,Nat.reduceAdd,Nat.reduceSub]
 · have hne:a≠b:=fun h=>hlen (by rw[h])
   simp(disch:=omega)only[go_sem,K.aY,↓reduceIte,hne,decide_false,Nat.reduceAdd,Nat.reduceSub]
theorem Q9:aE 0 N.jg [] []=some (.t (.agg [tI 6,tI 9,tI 12]),[]):=by
 refine ak K.tE rfl ?_
 simp(disch:=omega)only[go_sem,K.jg,↓reduceIte,Nat.reduceAdd,Nat.reduceSub]
theorem Wb{m:aM}(h:m.ok)(k:Nat)(hk:k<m.roads.length)(back:Bool)(up down level:Int)(hu:1≤up)(hu2:up≤100)(hd:1≤down)(hd2:down≤100)(hl:1≤level)(hl2:level≤100):
 aE 0 N.eX [.t m.e,I k,B back,.t (.agg [tI up,tI down,tI level])] []=some (I (eE m k back up down level),[]):=by
 refine ak K.vZ rfl ?_
 have nr:=h.nr
 have np:=h.np
 obtain⟨f0,f1,t0,t1, -,l0,l1, -, -, -, -, -, -, -, -⟩:=h.rs _ (ae hk)
 have b1:=h.hs _ (ae (l:=m.places) (j:=(nth m.roads k).frm.toNat) (by omega))
 have b2:=h.hs _ (ae (l:=m.places) (j:=(nth m.roads k).to.toNat) (by omega))
 have g:(m.roads.map Road.e)[k]?=some (nth m.roads k).e:=bP _ hk
 have p1:(m.places.map Place.e)[(nth m.roads k).frm.toNat]?=some (nth m.places (nth m.roads k).frm.toNat).e:=bP _ (by omega)
 have p2:(m.places.map Place.e)[(nth m.roads k).to.toNat]?=some (nth m.places (nth m.roads k).to.toNat).e:=bP _ (by omega)
 have key:∀h1 h2:Int, -10000≤h1→h1≤10000→ -10000≤h2→h2≤10000→IntKind.i64.wrap (h1-h2)=h1-h2∧IntKind.i64.wrap (-(h1-h2))=h2-h1:=fun h1 h2 _ _ _ _=>⟨yn (by omega) (by omega),by rw[yn (by omega) (by omega)];omega⟩
 unfold eE
 generalize nth m.roads k=x at*
 obtain⟨frm,to,len,area,walk,closed,rl,rh,ll,lh⟩:=x
 simp only at f0 f1 t0 t1 l0 l1 b1 b2 p1 p2 ⊢
 cases closed with
 | true=>
   obtain⟨places,roads⟩:=m
   simp(disch:=omega)only[go_sem,K.eX,↓reduceIte,g,Nat.reduceAdd,Nat.reduceSub]
 | false=>
   cases walk with
   | false=>
     obtain⟨places,roads⟩:=m
     simp(disch:=omega)only[go_sem,K.eX,↓reduceIte,g,Nat.reduceAdd,Nat.reduceSub]
   | true=>
     have g1:=vS (a:=10*len+up-1) (b:=up) (by omega) hu
     have g2:=vS (a:=10*len+down-1) (b:=down) (by omega) hd
     have g3:=vS (a:=10*len+level-1) (b:=level) (by omega) hl
     cases back with
     | true=>
       simp only[↓reduceIte]
       generalize nth m.places frm.toNat=q1 at*
       generalize nth m.places to.toNat=q2 at*
       obtain⟨h1,s1⟩:=q1
       obtain⟨h2,s2⟩:=q2
       obtain⟨places,roads⟩:=m
       simp only at*
       obtain⟨w2,w3⟩:=key h2 h1 (by omega) (by omega) (by omega) (by omega)
       by_cases c2:len< -10*(h1-h2)
       · simp(disch:=omega)only[go_sem,K.eX,↓reduceIte,g,p1,p2,w2,w3,gt_iff_lt,Int.zero_sub,Nat.reduceAdd,Nat.reduceSub]
       · by_cases c1:len<10*(h1-h2)
         · simp(disch:=omega)only[go_sem,K.eX,↓reduceIte,g,p1,p2,w2,w3,gt_iff_lt,Int.zero_sub,Nat.reduceAdd,Nat.reduceSub]
         · simp(disch:=omega)only[go_sem,K.eX,↓reduceIte,g,p1,p2,w2,w3,gt_iff_lt,Int.zero_sub,Nat.reduceAdd,Nat.reduceSub]
     | false=>
       simp only[Bool.false_eq_true,↓reduceIte]
       generalize nth m.places frm.toNat=q1 at*
       generalize nth m.places to.toNat=q2 at*
       obtain⟨h1,s1⟩:=q1
       obtain⟨h2,s2⟩:=q2
       obtain⟨places,roads⟩:=m
       simp only at*
       obtain⟨w2,w3⟩:=key h2 h1 (by omega) (by omega) (by omega) (by omega)
       by_cases c2:len< -10*(h2-h1)
       · simp(disch:=omega)only[go_sem,K.eX,↓reduceIte,g,p1,p2,w2,gt_iff_lt,Nat.reduceAdd,Nat.reduceSub]
       · by_cases c1:len<10*(h2-h1)
         · simp(disch:=omega)only[go_sem,K.eX,↓reduceIte,g,p1,p2,w2,gt_iff_lt,Nat.reduceAdd,Nat.reduceSub]
         · simp(disch:=omega)only[go_sem,K.eX,↓reduceIte,g,p1,p2,w2,gt_iff_lt,Nat.reduceAdd,Nat.reduceSub]
theorem DK{m:aM}(h:m.ok)(k:Nat)(hk:k<m.roads.length)(back:Bool):aE 0 N.iZ [.t m.e,I k,B back] []=some (I (eE m k back 6 9 12),[]):=by
 have q:=Q9
 have w:=Wb h k hk back 6 9 12 (by omega) (by omega) (by omega) (by omega) (by omega) (by omega)
 have v:=jH h
 have nr:=h.nr
 have s:aE 0 N.ke [.t m.e,I k,B back] []=some (I (eE m k back 6 9 12),[]):=by
  refine ak K.vY rfl ?_
  generalize eE m k back 6 9 12=r at*
  obtain⟨places,roads⟩:=m
  simp(disch:=omega)only[go_sem,K.ke,↓reduceIte,q,w,Nat.reduceAdd,Nat.reduceSub]
 refine ak K.vX rfl ?_
 generalize eE m k back 6 9 12=r at*
 obtain⟨places,roads⟩:=m
 simp only at*
 simp(disch:=omega)only[go_sem,K.iZ,↓reduceIte,v,s,Nat.reduceAdd,Nat.reduceSub]
theorem Wc(q:Int):aE 0 N.eH [I q] []=some (B true,[]):=by
 refine ak K.tD rfl ?_
 simp(disch:=omega)only[go_sem,K.eH,↓reduceIte,Nat.reduceAdd,Nat.reduceSub]
theorem Ra(q:Int)(l:List Int)(hl:l.length≤4294967296):aE 0 N.cq [I q,.bp 0 0] [.box [.t (tL l)]]=some (B (decide (q∈l)),[.box [.t (tL l)]]):=by
 refine ak K.mF rfl ?_
 have c:=ru l q hl
 simp(disch:=omega)only[go_sem,K.cq,↓reduceIte,c,Nat.reduceAdd,Nat.reduceSub]
def smE(into:Option (List Int)):ai:=match into with
 | none=>[]
 | some s=>[.box [.t (tL s)]]
def smD(into:Option (List Int)):D:=match into with
 | none=> .fn N.eH []
 | some _=> .fn N.cq [.bp 5 0]
def smK(into:Option (List Int)):Nat:=match into with
 | none=>5
 | some _=>6
@[go_sem] theorem ah9 (H : ai) (len j : Nat) (ts : List T) (h : j < len) : afz H len 1 false (.t (.agg ts)) j = (ts[j]?).map fun t => (.t t, H) := by
 have h0:len≠0:=by omega
 unfold afz EO
 rw[if_neg h0,if_pos h]
 unfold Ai cut
 simp only[D.isAgg,D.cells,T.cells,if_true,Nat.mul_one,List.length_map]
 by_cases hj:j<ts.length
 · rw[if_pos (by omega),List.getElem?_eq_getElem hj]
   have e:((ts.map D.t).drop j).take 1=[D.t ts[j]]:=by
    rw[List.drop_eq_getElem_cons (by simpa using hj)];simp
   rw[e];rfl
 · rw[if_neg (by omega),List.getElem?_eq_none (by omega)];rfl
def N0(into:Option (List Int))(l:List Int)(q:Nat)(x:Int):Bool:=decide (x≤2147483648∧x<nth l q)&&NC into q
theorem Wd(into:Option (List Int))(hi:∀s,into=some s→s.length≤64)(l:List Int)(hl:l.length≤64)(hb:bnd l)(p:Int)(q:Nat)(hq:q<l.length)(n t:Int)(ch:Bool):
 aE 0 N.bh [I p,I q,I n,.bp 0 0,.bp 1 0,.bp 2 0,.bp 3 0] (.box [I t]:: .box [.ref 4 0 l.length]:: .box [smD into]:: .box [B ch]::G8 l::smE into)=
  some (.tup [],if N0 into l q (max n t)=true then .box [I t]:: .box [.ref 4 0 l.length]:: .box [smD into]:: .box [B true]::G8 (l.set q (max n t))::smE into
   else .box [I t]:: .box [.ref 4 0 l.length]:: .box [smD into]:: .box [B ch]::G8 l::smE into):=by
 refine ak K.lL rfl ?_
 have ln:(l.set q (max n t)).length=l.length:=List.length_set ..
 have a:=Wc q
 have b:=hb _ (ae hq)
 unfold N0
 cases into with
 | none=>
   simp only[smE,smD,NC,Bool.and_true,decide_eq_true_eq]
   by_cases c1:max n t≤2147483648
   · by_cases c2:max n t<nth l q
     · simp(disch:=omega)only[go_sem,K.bh,↓reduceIte,a,c1,c2,and_self,Nat.reduceAdd,Nat.reduceSub]
     · simp(disch:=omega)only[go_sem,K.bh,↓reduceIte,c1,c2,and_false,Nat.reduceAdd,Nat.reduceSub]
   · simp(disch:=omega)only[go_sem,K.bh,↓reduceIte,c1,false_and,Nat.reduceAdd,Nat.reduceSub]
 | some s=>
   have a2:=Ra q s (by have:=hi s rfl;omega)
   simp only[smE,smD,NC]
   by_cases c1:max n t≤2147483648
   · by_cases c2:max n t<nth l q
     · by_cases c3:(q:Int)∈s
       · simp only[c3,decide_true]at a2
         simp(disch:=omega)only[go_sem,K.bh,↓reduceIte,a2,c1,c2,c3,and_self,decide_true,Bool.and_true,Nat.reduceAdd,Nat.reduceSub]
       · simp only[c3,decide_false]at a2
         simp(disch:=omega)only[go_sem,K.bh,↓reduceIte,a2,c1,c2,c3,and_self,decide_false,Bool.and_false,Nat.reduceAdd,Nat.reduceSub]
     · simp(disch:=omega)only[go_sem,K.bh,↓reduceIte,c1,c2,and_false,decide_false,Bool.false_and,Nat.reduceAdd,Nat.reduceSub]
   · simp(disch:=omega)only[go_sem,K.bh,↓reduceIte,c1,false_and,decide_false,Bool.false_and,Nat.reduceAdd,Nat.reduceSub]
theorem Rb{m:aM}(h:m.ok)(t:Int)(into:Option (List Int)){k:Nat}(hk:k<m.roads.length)(back:Bool)(l:List Int):
 fI m t into k back l=if 0≤eE m k back 6 9 12∧nth l ((nth m.roads k).src back).toNat<1099511627776∧N0 into l ((nth m.roads k).dst back).toNat (max (nth l ((nth m.roads k).src back).toNat+eE m k back 6 9 12) t)=true
  then(l.set ((nth m.roads k).dst back).toNat (max (nth l ((nth m.roads k).src back).toNat+eE m k back 6 9 12) t),true)else(l,false):=by
 have r2:=Road.Cz (h.rs _ (ae hk)) back
 unfold fI N0 oB nM
 have e:(((nth m.roads k).dst back).toNat:Int)=(nth m.roads k).dst back:=by omega
 rw[e]
 generalize (nth m.roads k).dst back=d at*
 generalize ((nth m.roads k).src back).toNat=s at*
 generalize eE m k back 6 9 12=v at*
 rw[Int.max_comm t]
 generalize max (nth l s+v) t=x at*
 cases NC into d with
 | false=>simp
 | true=>
   simp only[↓reduceIte,Bool.and_true,Bool.and_eq_true,decide_eq_true_eq]
   by_cases c:((0≤v∧nth l s<1099511627776)∧x≤2147483648)∧x<nth l d.toNat
   · obtain⟨⟨⟨c1,c2⟩,c3⟩,c4⟩:=c
     simp[c1,c2,c3,c4]
   · have c':¬(0≤v∧nth l s<1099511627776∧x≤2147483648∧x<nth l d.toNat):=fun h=>c ⟨⟨⟨h.1,h.2.1⟩,h.2.2.1⟩,h.2.2.2⟩
     rw[if_neg c,if_neg c']
     simp only[Prod.mk.injEq,true_and]
     have:(decide (0≤v)&&decide (nth l s<1099511627776)&&decide (x≤2147483648)&&decide (x<nth l d.toNat))=false:=by
      rw[Bool.eq_false_iff];intro h;simp only[Bool.and_eq_true,decide_eq_true_eq]at h;exact c h
     exact this
abbrev N1:D:= .fn N.bh [.bp 1 0,.bp 2 0,.bp 3 0,.bp 4 0]
abbrev A3(into:Option (List Int))(t:Int)(s:List Int×Bool):ai:=G8 s.1:: .box [I t]:: .box [.ref 0 0 s.1.length]:: .box [smD into]:: .box [B s.2]::smE into
abbrev yC(x:Road):List D:=[I x.frm,I x.to,I x.len,I x.area,B x.walk,B x.closed,I x.restL,I x.restH,I x.liftL,I x.liftH]
theorem CG{m:aM}(h:m.ok)(t:Int)(ht:0≤t)(ht2:t≤1000000000000)(into:Option (List Int))(hi:∀s,into=some s→s.length≤64)(l:List Int)(hl:l.length=m.places.length)(hb:bnd l)(ch:Bool){k:Nat}(hk:k<m.roads.length)(back:Bool):
 fG true [0,6,7,8,9] (A3 into t (l,ch)++[Obj.box (aa m),Obj.box (yC (nth m.roads k))]).length (exS aE K.eI ⟨[.und,.ref 0 0 l.length,N1,.bp (smK into) 0,I k,.bp (smK into+1) 0,.und,.und,.und,.und,.t (.sl (m.roads.map Road.e)),I m.roads.length,I k,.t (.agg [.bool false,.bool true]),I (if back then 1 else 0:Nat)],A3 into t (l,ch)++[.box (aa m),.box (yC (nth m.roads k))]⟩)=
  some ⟨[.und,.ref 0 0 l.length,N1,.bp (smK into) 0,I k,.bp (smK into+1) 0,.und,.und,.und,.und,.t (.sl (m.roads.map Road.e)),I m.roads.length,I k,.t (.agg [.bool false,.bool true]),I ((if back then 1 else 0:Nat)+1)],A3 into t ((fI m t into k back l).1,ch||(fI m t into k back l).2)++[.box (aa m),.box (yC (nth m.roads k))]⟩:=by
 have np:=h.np
 have nr:=h.nr
 have ok:=h.rs _ (ae hk)
 have r1:=Road.yY ok back
 have r2:=Road.Cz ok back
 have wt:=DK h k hk back
 have wl:=DC h k hk back
 have b1:=hb _ (ae (l:=l) (j:=((nth m.roads k).src back).toNat) (by omega))
 have lo:=Wd into hi l (by omega) hb ((nth m.roads k).src back) ((nth m.roads k).dst back).toNat (by omega) (nth l ((nth m.roads k).src back).toNat+eE m k back 6 9 12) t ch
 have e:(((nth m.roads k).dst back).toNat:Int)=(nth m.roads k).dst back:=by omega
 rw[e]at lo
 rw[Rb h t into hk back l]
 have ls:∀x,(l.set ((nth m.roads k).dst back).toNat x).length=l.length:=fun x=>List.length_set ..
 generalize eE m k back 6 9 12=v at*
 generalize hx:nth m.roads k=x at*
 clear hx ok
 obtain⟨frm,to,len,area,walk,closed,rl,rh,ll,lh⟩:=x
 obtain⟨places,roads⟩:=m
 simp only at hl np nr hk
 have h01:(1:Int)=0+1:=rfl
 by_cases c1:0≤v
 · by_cases c2:nth l ((Road.mk frm to len area walk closed rl rh ll lh).src back).toNat<1099511627776
   · cases c3:N0 into l ((Road.mk frm to len area walk closed rl rh ll lh).dst back).toNat (max (nth l ((Road.mk frm to len area walk closed rl rh ll lh).src back).toNat+v) t)<;>
     cases back<;>simp only[Road.src,Road.dst,Bool.false_eq_true,↓reduceIte]at* <;>simp only[c1,c2,c3,and_true,true_and,and_self,and_false,Bool.false_eq_true,↓reduceIte]at lo ⊢ <;>
     cases into<;>simp only[smE,smD,smK,aa,yC,A3,List.cons_append,List.nil_append]at* <;>
     simp(disch:=omega)only[go_sem,K.eI,↓reduceIte,wt,lo,c1,c2,ls,Bool.or_true,Bool.or_false,Nat.reduceAdd,Nat.reduceSub]
   · cases back<;>simp only[Road.src,Road.dst,Bool.false_eq_true,↓reduceIte]at* <;>simp only[c1,c2,false_and,and_false,↓reduceIte]<;>
     cases into<;>simp only[smE,smD,smK,aa,yC,A3,List.cons_append,List.nil_append]at* <;>
     simp(disch:=omega)only[go_sem,K.eI,↓reduceIte,wt,c1,c2,Bool.or_false,Nat.reduceAdd,Nat.reduceSub]
 · cases back<;>simp only[Road.src,Road.dst,Bool.false_eq_true,↓reduceIte]at* <;>simp only[c1,false_and,↓reduceIte]<;>
   cases into<;>simp only[smE,smD,smK,aa,yC,A3,List.cons_append,List.nil_append]at* <;>
   simp(disch:=omega)only[go_sem,K.eI,↓reduceIte,wt,c1,Bool.or_false,Nat.reduceAdd,Nat.reduceSub]
theorem Rc{m:aM}(h:m.ok)(t:Int)(ht:0≤t)(ht2:t≤1000000000000)(into:Option (List Int))(hi:∀s,into=some s→s.length≤64)(l:List Int)(hl:l.length=m.places.length)(hb:bnd l)(ch:Bool){k:Nat}(hk:k<m.roads.length):
 fG true [0,4,5,6,7,8,9,13,14] (A3 into t (l,ch)++[Obj.box (aa m)]).length (exS aE K.iS ⟨[.und,.ref 0 0 l.length,N1,.bp (smK into) 0,.und,.und,.und,.und,.und,.und,.t (.sl (m.roads.map Road.e)),I m.roads.length,I k,.und,.und],A3 into t (l,ch)++[.box (aa m)]⟩)=
  some ⟨[.und,.ref 0 0 (vT m t into k (l,ch)).1.length,N1,.bp (smK into) 0,.und,.und,.und,.und,.und,.und,.t (.sl (m.roads.map Road.e)),I m.roads.length,I (k+1),.und,.und],A3 into t (vT m t into k (l,ch))++[.box (aa m)]⟩:=by
 have nr:=h.nr
 have g:(m.roads.map Road.e)[k]?=some (nth m.roads k).e:=bP _ hk
 have h1:=CG h t ht ht2 into hi l hl hb ch hk false
 have l1:(fI m t into k false l).1.length=l.length:=qu ..
 have l2:(fI m t into k true (fI m t into k false l).1).1.length=l.length:=by rw[qu,l1]
 have h2:=CG h t ht ht2 into hi (fI m t into k false l).1 (by omega) (tz h hl hb hk false) (ch||(fI m t into k false l).2) hk true
 have st:vT m t into k (l,ch)=((fI m t into k true (fI m t into k false l).1).1,ch||(fI m t into k false l).2||(fI m t into k true (fI m t into k false l).1).2):=rfl
 rw[st]
 simp only[l1,l2,Bool.false_eq_true,↓reduceIte]at h1 h2 ⊢
 have inner:∀z0 z6 z7 z8 z9:D,exS aE K.pj ⟨[z0,.ref 0 0 l.length,N1,.bp (smK into) 0,I k,.bp (smK into+1) 0,z6,z7,z8,z9,.t (.sl (m.roads.map Road.e)),I m.roads.length,I k,.t (.agg [.bool false,.bool true]),I 0],A3 into t (l,ch)++[.box (aa m),.box (yC (nth m.roads k))]⟩=
  some (.exit 2,⟨[.und,.ref 0 0 l.length,N1,.bp (smK into) 0,I k,.bp (smK into+1) 0,.und,.und,.und,.und,.t (.sl (m.roads.map Road.e)),I m.roads.length,I k,.t (.agg [.bool false,.bool true]),I 2],
   A3 into t ((fI m t into k true (fI m t into k false l).1).1,ch||(fI m t into k false l).2||(fI m t into k true (fI m t into k false l).1).2)++[.box (aa m),.box (yC (nth m.roads k))]⟩):=by
  intro z0 z6 z7 z8 z9
  refine bR (fun j=>⟨[.und,.ref 0 0 l.length,N1,.bp (smK into) 0,I k,.bp (smK into+1) 0,.und,.und,.und,.und,.t (.sl (m.roads.map Road.e)),I m.roads.length,I k,.t (.agg [.bool false,.bool true]),I j],
   A3 into t (match j with | 0=>(l,ch) | 1=>((fI m t into k false l).1,ch||(fI m t into k false l).2) | _=>((fI m t into k true (fI m t into k false l).1).1,ch||(fI m t into k false l).2||(fI m t into k true (fI m t into k false l).1).2))++[.box (aa m),.box (yC (nth m.roads k))]⟩) 2 rfl ?_ ?_ (by simp)
  · intro j hj
    have hj2:j=0∨j=1:=by omega
    rcases hj2 with rfl | rfl
    · exact h1
    · exact h2
  · clear h1 h2
    cases into<;>simp only[smE,smD,smK,aa,yC,A3,List.cons_append,List.nil_append]<;>
    simp(disch:=omega)only[go_sem,K.eI,↓reduceIte,Nat.reduceAdd,Nat.reduceSub]
 clear h1 h2 st
 generalize fI m t into k true (fI m t into k false l).1=b2 at*
 generalize fI m t into k false l=b1 at*
 generalize hx:nth m.roads k=x at*
 clear hx
 obtain⟨frm,to,len,area,walk,closed,rl,rh,ll,lh⟩:=x
 obtain⟨places,roads⟩:=m
 simp only at nr hk
 cases into<;>simp only[smE,smD,smK,aa,yC,A3,List.cons_append,List.nil_append]at* <;>
 simp(disch:=omega)only[go_sem,K.iS,↓reduceIte,g,inner,l2,Nat.reduceAdd,Nat.reduceSub]
theorem HZ{m:aM}(h:m.ok)(t:Int)(ht:0≤t)(ht2:t≤1000000000000)(into:Option (List Int))(hi:∀s,into=some s→s.length≤64)(l:List Int)(hl:l.length=m.places.length)(hb:bnd l)(ch:Bool):
 aE 0 N.dk [.t m.e,.ref 0 0 l.length,N1] (A3 into t (l,ch))=some (.tup [],A3 into t ((dv m t into l).1,ch||(dv m t into l).2)):=by
 refine ak K.mG rfl ?_
 have nr:=h.nr
 have ls:=fun k=>dE m t into l k
 have loop:∀z0 z4 z5 z6 z7 z8 z9 z13 z14:D,exS aE K.pn ⟨[z0,.ref 0 0 l.length,N1,.bp (smK into) 0,z4,z5,z6,z7,z8,z9,.t (.sl (m.roads.map Road.e)),I m.roads.length,I 0,z13,z14],A3 into t (l,ch)++[.box (aa m)]⟩=
  some (.exit 0,⟨[.und,.ref 0 0 l.length,N1,.bp (smK into) 0,.und,.und,.und,.und,.und,.und,.t (.sl (m.roads.map Road.e)),I m.roads.length,I m.roads.length,.und,.und],A3 into t ((dv m t into l).1,ch||(dv m t into l).2)++[.box (aa m)]⟩):=by
  intro z0 z4 z5 z6 z7 z8 z9 z13 z14
  refine bR (fun j=>⟨[.und,.ref 0 0 l.length,N1,.bp (smK into) 0,.und,.und,.und,.und,.und,.und,.t (.sl (m.roads.map Road.e)),I m.roads.length,I j,.und,.und],A3 into t ((fm m t into l j).1,ch||(fm m t into l j).2)++[.box (aa m)]⟩) m.roads.length ?_ ?_ ?_ (by simp)
  · simp only[fm,Bool.or_false];rfl
  · intro j hj
    have r:=Rc h t ht ht2 into hi (fm m t into l j).1 (by rw[ls,hl]) (jc h hl hb j (by omega)) (ch||(fm m t into l j).2) hj
    have e:vT m t into j ((fm m t into l j).1,ch||(fm m t into l j).2)=((fm m t into l (j+1)).1,ch||(fm m t into l (j+1)).2):=by
     simp only[fm,vT,Bool.or_assoc]
    rw[e]at r
    simp only[ls]at r
    exact r
  · clear ls
    cases into<;>simp only[smE,smD,smK,aa,yC,A3,List.cons_append,List.nil_append]<;>
    simp(disch:=omega)only[go_sem,K.iS,↓reduceIte,dv,Nat.reduceAdd,Nat.reduceSub]
 have l2:(dv m t into l).1.length=l.length:=by unfold dv;rw[ls]
 clear ls
 generalize dv m t into l=r at*
 obtain⟨r1,r2⟩:=r
 obtain⟨places,roads⟩:=m
 simp only at nr hl l2
 cases into<;>simp only[smE,smD,smK,aa,yC,A3,List.cons_append,List.nil_append]at* <;>
 simp(disch:=omega)only[go_sem,K.dk,↓reduceIte,loop,l2,Nat.reduceAdd,Nat.reduceSub]
section
variable (a0 a1 a2 a3 a4 a5 x y : Obj) (ds : ai)
theorem Tj:(a0::a1::a2::a3::a4::(ds++[x]))[ds.length+5]?=some x:=by simp
theorem ab4:(a0::a1::a2::a3::a4::(ds++[x])).set (ds.length+5) y=a0::a1::a2::a3::a4::(ds++[y]):=by simp
theorem Tk:(a0::a1::a2::a3::a4::a5::(ds++[x]))[ds.length+6]?=some x:=by simp
theorem ab5:(a0::a1::a2::a3::a4::a5::(ds++[x])).set (ds.length+6) y=a0::a1::a2::a3::a4::a5::(ds++[y]):=by simp
theorem Tl(u:Obj):(ds++[u]++[x])[ds.length+1]?=some x:=by simp
theorem We(u:Obj):(a0::a1::a2::a3::a4::(ds++[u]++[x])).set (ds.length+1+1+1+1+1+1) y=a0::a1::a2::a3::a4::(ds++[u]++[y]):=by simp
theorem Wf(u:Obj):(a0::a1::a2::a3::a4::a5::(ds++[u]++[x])).set (ds.length+1+1+1+1+1+1+1) y=a0::a1::a2::a3::a4::a5::(ds++[u]++[y]):=by simp
theorem ab6:(ds++[x]).length=ds.length+1:=by simp
end
@[go_sem] theorem aeH (n : Nat) : eqB n n = true := by
 induction n with
 | zero=>rfl
 | succ n ih=>exact ih
abbrev Tm(m:aM)(into:Option (List Int))(t:Int)(l:List Int)(ds:ai)(c:Bool):ai:=match into with
 | none=> .box (aa m):: .box [I t]:: .box [.fn N.eH []]::G8 l:: .box [.ref 3 0 l.length]::(ds++[.box [B c]])
 | some s=> .box [.t (tL s)]:: .box (aa m):: .box [I t]:: .box [.fn N.cq [.bp 0 0]]::G8 l:: .box [.ref 4 0 l.length]::(ds++[.box [B c]])
abbrev H3(m:aM)(into:Option (List Int))(t:Int)(l:List Int)(ds:ai)(c:Bool):St:=match into with
 | none=>⟨[.und,.und,.und,.und,.bp 0 0,.bp 1 0,.bp 2 0,.und,.bp 4 0,.bp (ds.length+5) 0,.und],Tm m none t l ds c⟩
 | some s=>⟨[.und,.und,.und,.und,.bp 1 0,.bp 2 0,.bp 3 0,.und,.bp 5 0,.bp (ds.length+6) 0,.und],Tm m (some s) t l ds c⟩
theorem N2{m:aM}(h:m.ok)(t:Int)(ht:0≤t)(ht2:t≤1000000000000)(into:Option (List Int))(hi:∀s,into=some s→s.length≤64)(l:List Int)(hl:l.length=m.places.length)(hb:bnd l)(ds:ai)(k:Nat):
 fG false [0,1,2,3,7,10] k (exS aE K.c8 (H3 m into t l ds true))=some (H3 m into t (dv m t into l).1 (ds++[.box [B (dv m t into l).2]]) (dv m t into l).2):=by
 have nr:=h.nr
 have ar:=HZ h t ht ht2 into hi l hl hb false
 have l2:(dv m t into l).1.length=l.length:=by unfold dv;rw[dE]
 cases into with
 | none=>
   generalize dv m t none l=r at*
   obtain⟨r1,r2⟩:=r
   obtain⟨places,roads⟩:=m
   simp only[Tm,H3,A3,smE,smD,aa,Bool.false_or]at*
   simp(disch:=omega)only[go_sem,K.c8,↓reduceIte,ar,Tj,ab4,ab6,l2,Tl,We,Nat.reduceAdd,Nat.reduceSub]
 | some s=>
   generalize dv m t (some s) l=r at*
   obtain⟨r1,r2⟩:=r
   obtain⟨places,roads⟩:=m
   simp only[Tm,H3,A3,smE,smD,aa,Bool.false_or]at*
   simp(disch:=omega)only[go_sem,K.c8,↓reduceIte,ar,Tk,ab5,ab6,l2,Tl,Wf,Nat.reduceAdd,Nat.reduceSub]
theorem Re(m:aM)(into:Option (List Int))(t:Int)(l:List Int)(ds:ai):exS aE K.c8 (H3 m into t l ds false)=some (.exit 0,H3 m into t l ds false):=by
 obtain⟨places,roads⟩:=m
 cases into with
 | none=>
   simp only[Tm,H3,aa]
   simp(disch:=omega)only[go_sem,K.c8,↓reduceIte,Tj,Nat.reduceAdd,Nat.reduceSub]
 | some s=>
   simp only[Tm,H3,aa]
   simp(disch:=omega)only[go_sem,K.c8,↓reduceIte,Tk,Nat.reduceAdd,Nat.reduceSub]
theorem DL{m:aM}(h:m.ok)(t:Int)(ht:0≤t)(ht2:t≤1000000000000)(into:Option (List Int))(hi:∀s,into=some s→s.length≤64):∀(n:Nat) (l:List Int) (ds:ai),vd l<n→l.length=m.places.length→bnd l→
 ∃ds',nV false [0,1,2,3,7,10] (exS aE K.c8) (H3 m into t l ds true)=some (.exit 0,H3 m into t (iK (dv m t into) n l) ds' false)
 | 0,l,ds,hn,_,_=>absurd hn (by omega)
 | n+1,l,ds,hn,hl,hb=>by
   have r:=N2 h t ht ht2 into hi l hl hb ds (H3 m into t l ds true).H.length
   have s:=(qv h (t:=t) (into:=into) hl hb m.roads.length (Nat.le_refl _)).1
   change (dv m t into l).2=true→vd (dv m t into l).1<vd l at s
   unfold iK
   cases hc:(dv m t into l).2 with
   | true=>
     rw[hc]at r
     obtain⟨ds',h2⟩:=DL h t ht ht2 into hi n (dv m t into l).1 _ (by have:=s hc;omega) (by unfold dv;rw[dE,hl]) (jc h hl hb _ (Nat.le_refl _))
     exact⟨ds',jO r h2⟩
   | false=>
     rw[hc]at r
     exact⟨_,jO r (cN (Re m into t _ _) (by simp))⟩
theorem CH{m:aM}(h:m.ok)(t:Int)(ht:0≤t)(ht2:t≤1000000000000)(l:List Int)(hl:l.length=m.places.length)(hb:bnd l):
 aE 0 N.cA [.t m.e,.t (tL l),I t,.fn N.eH []] []=some (.t (tL (cV m t none l)),[])∧
 ∀s:List Int,s.length≤64→aE 1 N.cA [.t m.e,.t (tL l),I t,.fn N.cq [.bp 0 0]] [.box [.t (tL s)]]=some (.ref 1 0 l.length,[.box [.t (tL s)],G8 (cV m t (some s) l)]):=by
 have np:=h.np
 have c1:=A2 l (by omega)
 have ln:∀into,(cV m t into l).length=l.length:=by
  intro into
  have key:∀n l,(iK (dv m t into) n l).length=l.length:=by
   intro n
   induction n with
   | zero=>intro l;rfl
   | succ n ih=>
     intro l
     unfold iK
     split
     · rw[ih];unfold dv;rw[dE]
     · unfold dv;rw[dE]
  exact key _ _
 refine⟨ak K.kv rfl ?_,fun s hs=>ak K.kv rfl ?_⟩
 · obtain⟨ds,lp⟩:=DL h t ht ht2 none (by simp) (vd l+1) l [] (Nat.lt_succ_self _) hl hb
   have ln:=ln none
   have lp:∀z0 z1 z2 z3 z7 z10:D,exS aE K.mE ⟨[z0,z1,z2,z3,.bp 0 0,.bp 1 0,.bp 2 0,z7,.bp 4 0,.bp 5 0,z10],[.box (aa m),.box [I t],.box [.fn N.eH []],G8 l,.box [.ref 3 0 l.length],.box [B true]]⟩=some (.exit 0,H3 m none t (cV m t none l) ds false):=fun z0 z1 z2 z3 z7 z10=>lp
   generalize cV m t none l=r at*
   obtain⟨places,roads⟩:=m
   simp only[Tm,H3,aa]at*
   simp(disch:=omega)only[go_sem,K.cA,↓reduceIte,c1,lp,ln,Nat.reduceAdd,Nat.reduceSub]
 · obtain⟨ds,lp⟩:=DL h t ht ht2 (some s) (by intro s' h;cases h;exact hs) (vd l+1) l [] (Nat.lt_succ_self _) hl hb
   have l2:=ln (some s)
   clear ln
   have lp:∀z0 z1 z2 z3 z7 z10:D,exS aE K.mE ⟨[z0,z1,z2,z3,.bp 1 0,.bp 2 0,.bp 3 0,z7,.bp 5 0,.bp 6 0,z10],[.box [.t (tL s)],.box (aa m),.box [I t],.box [.fn N.cq [.bp 0 0]],G8 l,.box [.ref 4 0 l.length],.box [B true]]⟩=some (.exit 0,H3 m (some s) t (cV m t (some s) l) ds false):=fun z0 z1 z2 z3 z7 z10=>lp
   generalize cV m t (some s) l=r at*
   obtain⟨places,roads⟩:=m
   simp only[Tm,H3,aa]at*
   simp(disch:=omega)only[go_sem,K.cA,↓reduceIte,c1,lp,l2,Nat.reduceAdd,Nat.reduceSub]
end Go.Ev
namespace Go.Ev
open Go
variable [Lib] [bW] [bL]
theorem xy{gc:Bool}{dead:List Nat}{c:C}{vs:List D}{H:ai}(s:Nat→St)(n:Nat)(p:Nat→Bool)(P:Nat→Ex×St→Prop)(eN:Ex×St)
 (h0:(⟨j7 dead vs,H⟩:St)=s 0) (hs:∀j,j<n→p j=false→fG gc dead (s j).H.length (exS aE c (s j))=some (s (j+1)))
 (he:∀j,j<n→p j=true→∃q,exS aE c (s j)=some q∧q.1≠ .normal∧P j q) (hN:exS aE c (s n)=some eN) (hn:eN.1≠ .normal):
 ((List.range n).find? p=none∧exS aE (.loop gc dead c) ⟨vs,H⟩=some eN)∨∃j q,(List.range n).find? p=some j∧exS aE (.loop gc dead c) ⟨vs,H⟩=some q∧P j q:=by
 classical
 let e:Nat→Ex×St:=fun j=>if h:j<n∧p j=true then Classical.choose (he j h.1 h.2)else eN
 have h2:∀j,j<n→p j=true→exS aE c (s j)=some (e j)∧(e j).1≠ .normal∧P j (e j):=by
  intro j hj hp
  have e1:e j=Classical.choose (he j hj hp):=dif_pos ⟨hj,hp⟩
  rw[e1]
  exact Classical.choose_spec (he j hj hp)
 have:=cE s n p e eN h0 hs (fun j hj hp=>⟨(h2 j hj hp).1,(h2 j hj hp).2.1⟩) hN hn
 cases hf:(List.range n).find? p with
 | none=>rw[hf]at this;exact .inl ⟨rfl,this⟩
 | some j=>
   rw[hf]at this
   obtain⟨h3,h4⟩:=AT hf
   exact .inr ⟨j,e j,rfl,this,(h2 j h3 h4).2.2⟩
def tF(a b:List Int):Bool:=match (List.range (min a.length b.length)).find? (fun j=>decide (nth a j≠nth b j))with
 | some j=>decide (nth a j<nth b j)
 | none=>decide (a.length<b.length)
theorem H4(a b:List Int)(ha:a.length≤1000000)(hb:b.length≤1000000):aE 0 N.iv [.t (tL a),.t (tL b)] []=some (B (tF a b),[]):=by
 refine ak K.te rfl ?_
 have loop:∀c:D,exS aE K.xm ⟨[.t (tL a),.t (tL b),c,I 0],[]⟩=
  some (match (List.range (min a.length b.length)).find? (fun j=>decide (nth a j≠nth b j))with
   | some j=>(.ret,⟨[.t (tL a),.t (tL b),B (decide (nth a j<nth b j)),I j],[]⟩)
   | none=>(.exit 0,⟨[.t (tL a),.t (tL b),.und,I (min a.length b.length:Nat)],[]⟩)):=by
  intro c
  refine cE (fun j=>⟨[.t (tL a),.t (tL b),.und,I j],[]⟩) (min a.length b.length) (fun j=>decide (nth a j≠nth b j)) _ _ rfl ?_ ?_ ?_ (by simp)
  · intro j hj hp
    have hp:nth a j=nth b j:=by simpa using hp
    simp(disch:=omega)only[go_sem,K.jb,↓reduceIte]
  · intro j hj hp
    have hp:nth a j≠nth b j:=by simpa using hp
    refine⟨?_,by simp⟩
    by_cases h1:nth a j<nth b j
    · simp(disch:=omega)only[go_sem,K.jb,↓reduceIte,h1,decide_true]
    · simp(disch:=omega)only[go_sem,K.jb,↓reduceIte,h1,decide_false]
  · by_cases h1:a.length≤b.length
    · have e:min a.length b.length=a.length:=by omega
      rw[e]
      simp(disch:=omega)only[go_sem,K.jb,↓reduceIte]
    · have e:min a.length b.length=b.length:=by omega
      rw[e]
      simp(disch:=omega)only[go_sem,K.jb,↓reduceIte]
 unfold tF
 simp(disch:=omega)only[go_sem,K.iv,↓reduceIte,loop]
 cases hf:(List.range (min a.length b.length)).find? (fun j=>decide (nth a j≠nth b j))with
 | some j=>simp(disch:=omega)only[go_sem,↓reduceIte]
 | none=>
   by_cases h1:a.length<b.length
   · simp(disch:=omega)only[go_sem,↓reduceIte,h1,decide_true]
   · simp(disch:=omega)only[go_sem,↓reduceIte,h1,decide_false]
def b6(l:List Int)(x:Int):Int:=match (List.range l.length).find? (fun j=>decide (nth l j=x))with
 | some j=>j
 | none=> -1
theorem oH(l:List Int)(x:Int)(hl:l.length≤1000000):aE 0 N.cZ [.t (tL l),I x] []=some (I (b6 l x),[]):=by
 refine ak K.pN rfl ?_
 have loop:∀c:D,exS aE K.s7 ⟨[.t (tL l),I x,c,I 0],[]⟩=
  some (match (List.range l.length).find? (fun j=>decide (nth l j=x))with
   | some j=>(.ret,⟨[.t (tL l),I x,I j,I j],[]⟩)
   | none=>(.exit 0,⟨[.t (tL l),I x,.und,I l.length],[]⟩)):=by
  intro c
  refine cE (fun j=>⟨[.t (tL l),I x,.und,I j],[]⟩) l.length (fun j=>decide (nth l j=x)) _ _ rfl ?_ ?_ ?_ (by simp)
  · intro j hj hp
    have hp:¬nth l j=x:=by simpa using hp
    simp(disch:=omega)only[go_sem,K.kt,↓reduceIte]
  · intro j hj hp
    have hp:nth l j=x:=by simpa using hp
    refine⟨?_,by simp⟩
    simp(disch:=omega)only[go_sem,K.kt,↓reduceIte,hp]
  · simp(disch:=omega)only[go_sem,K.kt,↓reduceIte]
 unfold b6
 simp(disch:=omega)only[go_sem,K.cZ,↓reduceIte,loop]
 cases hf:(List.range l.length).find? (fun j=>decide (nth l j=x))with
 | some j=>simp(disch:=omega)only[go_sem,↓reduceIte]
 | none=>simp(disch:=omega)only[go_sem,↓reduceIte]
theorem yD{l:List Int}{x:Int}(h:0≤b6 l x):b6 l x<l.length∧nth l (b6 l x).toNat=x:=by
 unfold b6 at h ⊢
 cases hf:(List.range l.length).find? (fun j=>decide (nth l j=x))with
 | some j=>
   obtain⟨h1,h2⟩:=AT hf
   simp only[Int.toNat_natCast]
   exact⟨by omega,of_decide_eq_true h2⟩
 | none=>rw[hf]at h;simp at h
def oI(l:List Int)(j:Nat):Bool:=decide (1≤nth l j∧nth l j≤65535∧b6 (l.take j) (nth l j)<0)
def fy(l:List Int):Bool:=(List.range l.length).all (oI l)
theorem FW(l:List Int)(hl:l.length≤1000000):aE 0 N.eR [.t (tL l)] []=some (B (fy l),[]):=by
 refine ak K.pH rfl ?_
 have loop:∀c:D,exS aE K.sY ⟨[.t (tL l),c,I 0],[]⟩=
  some (match (List.range l.length).find? (fun j=> !oI l j)with
   | some j=>(.ret,⟨[.t (tL l),B false,I j],[]⟩)
   | none=>(.exit 0,⟨[.t (tL l),.und,I l.length],[]⟩)):=by
  intro c
  refine cE (fun j=>⟨[.t (tL l),.und,I j],[]⟩) l.length (fun j=> !oI l j) _ _ rfl ?_ ?_ ?_ (by simp)
  · intro j hj hp
    have hp:oI l j=true:=by simpa using hp
    have b:=oH (l.take j) (nth l j) (by rw[List.length_take];omega)
    simp only[oI,decide_eq_true_eq]at hp
    simp only[tL,List.map_take]at b
    simp(disch:=omega)only[go_sem,K.gQ,↓reduceIte,b]
  · intro j hj hp
    have hp:oI l j=false:=by simpa using hp
    have b:=oH (l.take j) (nth l j) (by rw[List.length_take];omega)
    simp only[oI,decide_eq_false_iff_not]at hp
    simp only[tL,List.map_take]at b
    refine⟨?_,by simp⟩
    by_cases h1:nth l j<1
    · simp(disch:=omega)only[go_sem,K.gQ,↓reduceIte,b]
    · by_cases h2:65535<nth l j
      · simp(disch:=omega)only[go_sem,K.gQ,↓reduceIte,b]
      · simp(disch:=omega)only[go_sem,K.gQ,↓reduceIte,b]
  · simp(disch:=omega)only[go_sem,K.gQ,↓reduceIte]
 unfold fy
 rw[rr]
 simp(disch:=omega)only[go_sem,K.eR,↓reduceIte,loop]
 cases hf:(List.range l.length).find? (fun j=> !oI l j)with
 | some j=>simp(disch:=omega)only[go_sem,↓reduceIte,Option.isNone]
 | none=>simp(disch:=omega)only[go_sem,↓reduceIte,Option.isNone]
structure World where
 tags:List Int
 whr:List Wh
instance : Dat World := ⟨⟨[], []⟩⟩
abbrev World.e(x:World):T:= .agg [tL x.tags,.sl (x.whr.map Wh.e)]
structure Bel where
 worlds:List World
instance : Dat Bel := ⟨⟨[]⟩⟩
abbrev Bel.e(b:Bel):T:= .agg [.sl (b.worlds.map World.e)]
def World.sz(x:World):Prop:=x.tags.length≤1000000∧x.whr.length≤1000000∧∀w∈x.whr,w.frm.length≤1000000
def Bel.sz(b:Bel):Prop:=b.worlds.length≤1000000∧∀x∈b.worlds,x.sz
theorem vg(x:World)(h:x.sz)(a:D):exS aE K.pd ⟨[a,.bp 0 0,.bp 1 0,.bp 3 0,I 0],[.box [.t (tL x.tags),.t (.sl (x.whr.map Wh.e))],.box [.nil,.nil],.arr 1 false 0 ((x.tags.map (T.int .i64)).map .t),.box [.ref 2 0 x.tags.length,.ref 5 0 0],.arr 2 false 0 [],.arr 2 false 0 []]⟩=
 some (.exit 0,⟨[.und,.bp 0 0,.bp 1 0,.bp 3 0,I x.whr.length],[.box [.t (tL x.tags),.t (.sl (x.whr.map Wh.e))],.box [.nil,.nil],.arr 1 false 0 ((x.tags.map (T.int .i64)).map .t),.box [.ref 2 0 x.tags.length,.ref 5 0 x.whr.length],.arr 2 false 0 [],.arr 2 false 0 ((x.whr.map Wh.e).map .t)]⟩):=by
 obtain⟨tags,whr⟩:=x
 obtain⟨h1,h2,h3⟩:=h
 simp only at h1 h2 h3 ⊢
 have tk:whr.take whr.length=whr:=by simp
 refine bR (fun j=>⟨[.und,.bp 0 0,.bp 1 0,.bp 3 0,I j],[.box [.t (tL tags),.t (.sl (whr.map Wh.e))],.box [.nil,.nil],.arr 1 false 0 ((tags.map (T.int .i64)).map .t),.box [.ref 2 0 tags.length,.ref 5 0 (whr.take j).length],.arr 2 false 0 [],.arr 2 false 0 (((whr.take j).map Wh.e).map .t)]⟩) whr.length rfl ?_ ?_ (by simp)
 · intro j hj
   have c:=DG (nth whr j) (by have:=h3 _ (ae hj);omega)
   have lt:(whr.take j).length=j:=by rw[List.length_take];omega
   generalize hx:nth whr j=w at*
   obtain⟨time,frm⟩:=w
   have tk:whr.take (j+1)=whr.take j++[⟨time,frm⟩]:=by rw[jQ hj,hx]
   generalize whr.take j=pre at*
   simp(disch:=omega)only[go_sem,K.kB,↓reduceIte,hx,c,lt,tk,Nat.reduceAdd,Nat.reduceSub]
 · simp(disch:=omega)only[go_sem,K.kB,↓reduceIte,tk]
theorem FX(x:World)(h:x.sz):aE 0 N.bC [.t x.e] []=some (.t x.e,[]):=by
 refine ak K.jP rfl ?_
 have loop:=vg x h
 obtain⟨tags,whr⟩:=x
 obtain⟨h1,h2,h3⟩:=h
 simp only at h1 h2 h3 loop ⊢
 simp(disch:=omega)only[go_sem,K.bC,↓reduceIte,loop]
theorem lM(x:World)(h:x.sz):aE 1 N.bC [.t x.e] []=some (.agg [.ref 0 0 x.tags.length,.ref 1 0 x.whr.length],[.arr 1 false 0 ((x.tags.map (T.int .i64)).map .t),.arr 2 false 0 ((x.whr.map Wh.e).map .t)]):=by
 refine ak K.jP rfl ?_
 have loop:=vg x h
 obtain⟨tags,whr⟩:=x
 obtain⟨h1,h2,h3⟩:=h
 simp only at h1 h2 h3 loop ⊢
 simp(disch:=omega)only[go_sem,K.bC,↓reduceIte,loop]
theorem zj(l:List World)(h1:l.length≤1000000)(h2:∀x∈l,x.sz)(a:D):exS aE K.xi ⟨[a,.bp 0 0,.bp 1 0,.bp 2 0,I 0],[.box [.t (.sl (l.map World.e))],.box [.nil],.box [.ref 3 0 0],.arr 2 false 0 []]⟩=
 some (.exit 0,⟨[.und,.bp 0 0,.bp 1 0,.bp 2 0,I l.length],[.box [.t (.sl (l.map World.e))],.box [.nil],.box [.ref 3 0 l.length],.arr 2 false 0 ((l.map World.e).map .t)]⟩):=by
 have tk:l.take l.length=l:=by simp
 refine bR (fun j=>⟨[.und,.bp 0 0,.bp 1 0,.bp 2 0,I j],[.box [.t (.sl (l.map World.e))],.box [.nil],.box [.ref 3 0 (l.take j).length],.arr 2 false 0 (((l.take j).map World.e).map .t)]⟩) l.length rfl ?_ ?_ (by simp)
 · intro j hj
   have c:=FX (nth l j) (h2 _ (ae hj))
   have lt:(l.take j).length=j:=by rw[List.length_take];omega
   generalize hx:nth l j=w at*
   obtain⟨tags,whr⟩:=w
   have tk:l.take (j+1)=l.take j++[⟨tags,whr⟩]:=by rw[jQ hj,hx]
   generalize l.take j=pre at*
   simp(disch:=omega)only[go_sem,K.pI,↓reduceIte,hx,c,lt,tk,Nat.reduceAdd,Nat.reduceSub]
 · simp(disch:=omega)only[go_sem,K.pI,↓reduceIte,tk]
theorem yE(b:Bel)(h:b.sz):aE 0 N.ew [.t b.e] []=some (.t b.e,[]):=by
 refine ak K.pe rfl ?_
 obtain⟨h1,h2⟩:=h
 have loop:=zj b.worlds h1 h2
 obtain⟨l⟩:=b
 simp only at h1 h2 loop ⊢
 simp(disch:=omega)only[go_sem,K.ew,↓reduceIte,loop]
theorem H5(b:Bel)(h:b.sz):aE 1 N.ew [.t b.e] []=some (.agg [.ref 0 0 b.worlds.length],[.arr 2 false 0 ((b.worlds.map World.e).map .t)]):=by
 refine ak K.pe rfl ?_
 obtain⟨h1,h2⟩:=h
 have loop:=zj b.worlds h1 h2
 obtain⟨l⟩:=b
 simp only at h1 h2 loop ⊢
 simp(disch:=omega)only[go_sem,K.ew,↓reduceIte,loop]
def KX(m:aM)(first:List Int)(x:World)(k:Nat):Bool:=decide (0≤b6 first (nth x.tags k))&&dg m (nth x.whr k)
def pq(m:aM)(ws:List World)(first:List Int)(i:Nat):Bool:=
 decide ((nth ws i).tags.length=first.length∧(nth ws i).whr.length=first.length)&&fy (nth ws i).tags&&(decide (i=0)||tF (nth ws (i-1)).tags (nth ws i).tags)&&(List.range (nth ws i).tags.length).all (KX m first (nth ws i))
def rG(m:aM)(b:Bel):Bool:=
 decide (1≤b.worlds.length∧b.worlds.length≤24)&&decide (1≤(nth b.worlds 0).tags.length∧(nth b.worlds 0).tags.length≤12)&&(List.range b.worlds.length).all (pq m b.worlds (nth b.worlds 0).tags)
theorem A4{m:aM}(h:m.ok)(ws:List World)(first:List Int)(hf:first.length≤1000000)(hs:∀x∈ws,x.sz)(i:Nat)(hi:i<ws.length)(hl:ws.length≤1000000):
 (pq m ws first i=true→fG true [0,1,4,7,8] 2 (exS aE K.b5 ⟨[.und,.und,.bp 0 0,.bp 1 0,.und,.t (tL first),I i,.und,.und],[.box (aa m),.box [.t (.sl (ws.map World.e))]]⟩)=some ⟨[.und,.und,.bp 0 0,.bp 1 0,.und,.t (tL first),I (i+1),.und,.und],[.box (aa m),.box [.t (.sl (ws.map World.e))]]⟩)∧
 (pq m ws first i=false→∃q,exS aE K.b5 ⟨[.und,.und,.bp 0 0,.bp 1 0,.und,.t (tL first),I i,.und,.und],[.box (aa m),.box [.t (.sl (ws.map World.e))]]⟩=some q∧q.1= .ret∧q.2.vs[4]?=some (B false)):=by
 have np:=h.np
 have sz:=hs _ (ae hi)
 have sz0:0<i→(nth ws (i-1)).sz:=fun h0=>hs _ (ae (by omega))
 unfold pq
 generalize hy:nth ws (i-1)=y at*
 generalize hx:nth ws i=x at*
 obtain⟨tags,whr⟩:=x
 obtain⟨ptags,pwhr⟩:=y
 obtain⟨s1,s2,s3⟩:=sz
 simp only at s1 s2 s3 sz0 ⊢
 have p:=FW tags s1
 have inner:tags.length=first.length→whr.length=first.length→∀a b c:D,
  ((List.range tags.length).all (KX m first ⟨tags,whr⟩)=true∧exS aE K.pJ ⟨[a,b,.bp 0 0,.bp 1 0,c,.t (tL first),I i,.bp 2 0,I 0],[.box (aa m),.box [.t (.sl (ws.map World.e))],.box [.t (tL tags),.t (.sl (whr.map Wh.e))]]⟩=
    some (.exit 2,⟨[.und,.und,.bp 0 0,.bp 1 0,.und,.t (tL first),I i,.bp 2 0,I tags.length],[.box (aa m),.box [.t (.sl (ws.map World.e))],.box [.t (tL tags),.t (.sl (whr.map Wh.e))]]⟩))∨
  ((List.range tags.length).all (KX m first ⟨tags,whr⟩)=false∧∃j,exS aE K.pJ ⟨[a,b,.bp 0 0,.bp 1 0,c,.t (tL first),I i,.bp 2 0,I 0],[.box (aa m),.box [.t (.sl (ws.map World.e))],.box [.t (tL tags),.t (.sl (whr.map Wh.e))]]⟩=
    some (.ret,⟨[.und,.und,.bp 0 0,.bp 1 0,B false,.t (tL first),I i,.bp 2 0,j],[.box (aa m),.box [.t (.sl (ws.map World.e))],.box [.t (tL tags),.t (.sl (whr.map Wh.e))]]⟩)):=by
  intro l1 l2 a b c
  have:=cE (gc:=true) (dead:=[0,1,4]) (c:=K.iy) (vs:=[a,b,.bp 0 0,.bp 1 0,c,.t (tL first),I i,.bp 2 0,I 0]) (H:=[.box (aa m),.box [.t (.sl (ws.map World.e))],.box [.t (tL tags),.t (.sl (whr.map Wh.e))]])
   (fun j=>⟨[.und,.und,.bp 0 0,.bp 1 0,.und,.t (tL first),I i,.bp 2 0,I j],[.box (aa m),.box [.t (.sl (ws.map World.e))],.box [.t (tL tags),.t (.sl (whr.map Wh.e))]]⟩) tags.length (fun j=> !KX m first ⟨tags,whr⟩ j)
   (fun j=>(.ret,⟨[.und,.und,.bp 0 0,.bp 1 0,B false,.t (tL first),I i,.bp 2 0,I j],[.box (aa m),.box [.t (.sl (ws.map World.e))],.box [.t (tL tags),.t (.sl (whr.map Wh.e))]]⟩))
   (.exit 2,⟨[.und,.und,.bp 0 0,.bp 1 0,.und,.t (tL first),I i,.bp 2 0,I tags.length],[.box (aa m),.box [.t (.sl (ws.map World.e))],.box [.t (tL tags),.t (.sl (whr.map Wh.e))]]⟩) rfl
   (by
    intro j hj hp
    have hp:KX m first ⟨tags,whr⟩ j=true:=by simpa using hp
    have b:=oH first (nth tags j) hf
    have v:=DF h (nth whr j) (by have:=s3 _ (ae (l:=whr) (j:=j) (by omega));omega)
    simp only[KX,Bool.and_eq_true,decide_eq_true_eq]at hp
    rw[hp.2]at v
    have hp:=hp.1
    simp(disch:=omega)only[go_sem,K.iy,↓reduceIte,b,v])
   (by
    intro j hj hp
    have hp:KX m first ⟨tags,whr⟩ j=false:=by simpa using hp
    have b:=oH first (nth tags j) hf
    have v:=DF h (nth whr j) (by have:=s3 _ (ae (l:=whr) (j:=j) (by omega));omega)
    refine⟨?_,by simp⟩
    by_cases c1:b6 first (nth tags j)<0
    · simp(disch:=omega)only[go_sem,K.iy,↓reduceIte,b,v]
    · have:dg m (nth whr j)=false:=by
       simp only[KX,Bool.and_eq_false_iff,decide_eq_false_iff_not]at hp
       rcases hp with hp | hp
       · exact absurd (by omega) hp
       · exact hp
      rw[this]at v
      simp(disch:=omega)only[go_sem,K.iy,↓reduceIte,b,v])
   (by simp(disch:=omega)only[go_sem,K.iy,↓reduceIte]) (by simp)
  cases hf:(List.range tags.length).find? (fun j=> !KX m first ⟨tags,whr⟩ j)with
  | none=>rw[hf]at this;exact .inl ⟨by rw[rr,hf];rfl,this⟩
  | some j=>rw[hf]at this;exact .inr ⟨by rw[rr,hf];rfl,⟨_,this⟩⟩
 by_cases l1:tags.length=first.length
 · by_cases l2:whr.length=first.length
   · cases hp:fy tags with
     | false=>
       rw[hp]at p
       refine⟨fun h=>by simp[hp]at h,fun _=>?_⟩
       simp(disch:=omega)only[go_sem,K.b5,↓reduceIte,hx,p]
       refine⟨_,rfl,?_,?_⟩<;>rfl
     | true=>
       rw[hp]at p
       have inner:=inner l1 l2
       cases i with
       | zero=>
         simp only[HP]at inner
         simp only[l1,l2,and_self,decide_true,Bool.true_and,Bool.true_or]at inner ⊢
         rcases inner .und .und .und with⟨e, -⟩ | ⟨e, -⟩
         · refine⟨fun _=>?_,fun h=>by rw[e]at h;exact absurd h (by simp)⟩
           have inner:=fun a b c=>((inner a b c).resolve_right fun h=>by rw[e]at h;exact absurd h.1 (by simp)).2
           simp(disch:=omega)only[go_sem,K.b5,↓reduceIte,hx,p,inner]
         · refine⟨fun h=>by rw[e]at h;exact absurd h (by simp),fun _=>?_⟩
           have inner:∀a b c,_:=fun a b c=>((inner a b c).resolve_left fun h=>by rw[e]at h;exact absurd h.1 (by simp)).2
           obtain⟨j,inner⟩:=inner .und .und .und
           simp(disch:=omega)only[go_sem,K.b5,↓reduceIte,hx,p,inner]
           refine⟨_,rfl,?_,?_⟩<;>rfl
       | succ i=>
         simp only[KM,KN]at inner
         rw[Nat.add_sub_cancel]at hy
         have ls:=H4 ptags tags (sz0 (by omega)).1 s1
         cases hl:tF ptags tags with
         | false=>
           rw[hl]at ls
           refine⟨fun h=>by simp at h,fun _=>?_⟩
           simp(disch:=omega)only[go_sem,K.b5,↓reduceIte,hx,p,hy,ls]
           refine⟨_,rfl,?_,?_⟩<;>rfl
         | true=>
           rw[hl]at ls
           simp only[l1,l2,and_self,decide_true,Bool.true_and,Bool.or_true]at inner ⊢
           rcases inner .und .und .und with⟨e, -⟩ | ⟨e, -⟩
           · refine⟨fun _=>?_,fun h=>by rw[e]at h;exact absurd h (by simp)⟩
             have inner:=fun a b c=>((inner a b c).resolve_right fun h=>by rw[e]at h;exact absurd h.1 (by simp)).2
             simp(disch:=omega)only[go_sem,K.b5,↓reduceIte,hx,hy,ls,p,inner]
           · refine⟨fun h=>by rw[e]at h;exact absurd h (by simp),fun _=>?_⟩
             have inner:∀a b c,_:=fun a b c=>((inner a b c).resolve_left fun h=>by rw[e]at h;exact absurd h.1 (by simp)).2
             obtain⟨j,inner⟩:=inner .und .und .und
             simp(disch:=omega)only[go_sem,K.b5,↓reduceIte,hx,hy,ls,p,inner]
             refine⟨_,rfl,?_,?_⟩<;>rfl
   · refine⟨fun h=>by simp[l2]at h,fun _=>?_⟩
     simp(disch:=omega)only[go_sem,K.b5,↓reduceIte,hx,p]
     refine⟨_,rfl,?_,?_⟩<;>rfl
 · refine⟨fun h=>by simp[l1]at h,fun _=>?_⟩
   simp(disch:=omega)only[go_sem,K.b5,↓reduceIte,hx,p]
   refine⟨_,rfl,?_,?_⟩<;>rfl
theorem H6{m:aM}(h:m.ok)(b:Bel)(hs:b.sz):aE 0 N.cH [.t m.e,.t b.e] []=some (B (rG m b),[]):=by
 refine ak K.qS rfl ?_
 obtain⟨h1,h2⟩:=hs
 have ck:=rq h
 obtain⟨ws⟩:=b
 unfold rG
 simp only at h1 h2 ⊢
 by_cases c1:ws.length<1
 · simp(disch:=omega)only[go_sem,K.cH,↓reduceIte,show ¬(1≤ws.length∧ws.length≤24)by omega,decide_false,Bool.false_and]
 · by_cases c2:24<ws.length
   · simp(disch:=omega)only[go_sem,K.cH,↓reduceIte,show ¬(1≤ws.length∧ws.length≤24)by omega,decide_false,Bool.false_and]
   · have c3:1≤ws.length∧ws.length≤24:=by omega
     have sz:=h2 _ (ae (l:=ws) (j:=0) (by omega))
     have i0:(ws.map World.e)[0]?=some (nth ws 0).e:=bP _ (by omega)
     generalize hx:nth ws 0=x at*
     obtain⟨first,whr⟩:=x
     have hf:=sz.1
     simp only at hf ⊢
     by_cases c4:first.length<1
     · simp(disch:=omega)only[go_sem,K.cH,↓reduceIte,ck,hx,c3,and_self,show ¬(1≤first.length∧first.length≤12)by omega,decide_true,decide_false,Bool.true_and,Bool.false_and]
     · by_cases c5:12<first.length
       · simp(disch:=omega)only[go_sem,K.cH,↓reduceIte,ck,hx,c3,and_self,show ¬(1≤first.length∧first.length≤12)by omega,decide_true,decide_false,Bool.true_and,Bool.false_and]
       · have loop:=fun a b c d e=>xy (gc:=true) (dead:=[0,1,4,7,8]) (c:=K.b5) (vs:=[a,b,.bp 0 0,.bp 1 0,c,.t (tL first),I 0,d,e]) (H:=[.box (aa m),.box [.t (.sl (ws.map World.e))]])
          (fun j=>⟨[.und,.und,.bp 0 0,.bp 1 0,.und,.t (tL first),I j,.und,.und],[.box (aa m),.box [.t (.sl (ws.map World.e))]]⟩) ws.length (fun j=> !pq m ws first j) (fun _ q=>q.1= .ret∧q.2.vs[4]?=some (B false))
          (.exit 0,⟨[.und,.und,.bp 0 0,.bp 1 0,.und,.t (tL first),I ws.length,.und,.und],[.box (aa m),.box [.t (.sl (ws.map World.e))]]⟩) rfl
          (fun j hj hp=>(A4 h ws first hf h2 j hj h1).1 (by simpa using hp))
          (fun j hj hp=>by
           obtain⟨q,q1,q2,q3⟩:=(A4 h ws first hf h2 j hj h1).2 (by simpa using hp)
           exact⟨q,q1,by rw[q2];simp,q2,q3⟩)
          (by simp(disch:=omega)only[go_sem,K.b5,↓reduceIte]) (by simp)
         rw[rr]
         rcases loop (.t m.e) (.t (Bel.e ⟨ws⟩)) (B false) .und .und with⟨e1,e2⟩ | ⟨j,⟨x,vs,H⟩,e1,e2,e3,e4⟩
         · have e2:exS aE K.pK ⟨[.t m.e,.t (Bel.e ⟨ws⟩),.bp 0 0,.bp 1 0,B false,.t (tL first),I 0,.und,.und],[.box (aa m),.box [.t (.sl (ws.map World.e))]]⟩=_:=e2
           simp(disch:=omega)only[go_sem,K.cH,↓reduceIte,ck,hx,c3,and_self,show(1≤first.length∧first.length≤12)by omega,decide_true,decide_false,Bool.true_and,e1,e2,Option.isNone]
         · have e2:exS aE K.pK ⟨[.t m.e,.t (Bel.e ⟨ws⟩),.bp 0 0,.bp 1 0,B false,.t (tL first),I 0,.und,.und],[.box (aa m),.box [.t (.sl (ws.map World.e))]]⟩=_:=e2
           simp only at e3 e4
           subst e3
           simp(disch:=omega)only[go_sem,K.cH,↓reduceIte,ck,hx,c3,and_self,show(1≤first.length∧first.length≤12)by omega,decide_true,decide_false,Bool.true_and,e1,e2,Option.isNone]
           simp(disch:=omega)only[go_sem,jD,e4,List.take_zero]
end Go.Ev
namespace Go.Ev.K
open Go.Ev
def nG:C:=(.seq (.ite [m v5,f 1 v2,g l0,u (.ln l0),u (.bin .lss l3 l0)] [] 0 .skip (.exit 0)) (.seq (.blk 1 (.seq (.reg [f 1 v2,g l0,m v5,a 10 l1 l0,h 10 l0,w 6 (.al [.t (.int .i64 (0)),.t (.int .i64 (0)),.t (.int .i64 (0)),.t (.int .i64 (0)),.t (.bool false),.t (.bool false),.t (.int .i64 (0)),.t (.int .i64 (0)),.t (.int .i64 (0)),.t (.int .i64 (0))] []),u (.st l0 l1 10 [])] []) (.seq (.reg [h 2 v2,m v5,u (.ca N.fX 0 [] [.l 1,.l 0,.b false]),u (.bin .geq l0 (.i 0)),m l0,y 0 false (.ld v2 2 true),y 1 false (.mv v5),y 2 false (.ca N.fX 0 [] [.l 1,.l 0,.b true]),y 3 false (.bin .geq l0 (.i 0)),u (.pk l4 (.b true) l0),w 7 (.mv l0)] []) (.ite [f 5 v6,g l0,u (.un .not l0),m l0,y 0 true (.mv v7),u (.pk l1 l0 (.b false)),m l0,y 0 true (.mv v1),y 1 true (.fa v6 0),y 2 true (.ld l0 1 false),y 3 true (.ca N.fH 0 [] [.l 2,.l 0]),y 4 true (.mv v1),y 5 true (.fa v6 1),y 6 true (.ld l0 1 false),y 7 true (.ca N.fH 0 [] [.l 2,.l 0]),y 8 true (.eqk (.bool) true l4 l0),u (.pk l9 l0 (.b false))] [(13,0)] 0 (.reg [m v4,m v5,u (.bs [.l 0] 1),u (.app l2 l0 true 1),w 4 (.mv l0)] []) .skip)))) (.reg [m v5,u (.bin .add l0 (.i 1)),w 5 (.mv l0)] [])))
def tG:C:= .loop true [0,3,6,7] K.nG
def fS:Fn:={ nargs:=2,vars:=[0,1,2,4,5,6,7,8],body:=(.seq (.reg [w 2 (.bx v0 2),w 3 (.mv (.c (.nil)))] []) (.seq (.reg [w 4 (.nw 1)] []) (.seq (.seq (.reg [w 5 (.mv (.i 0))] []) (.blk 0 K.tG)) (.seq (.reg [m v4,w 3 (.mv l0)] []) .ret)))),res:=[(3,none)]}
def fT:C:=(.seq (.ite [m v12,f 0 v10,g l0,m v11,a 2 l1 l0,f 1 l0,g l0,u (.ln l0),u (.bin .lss l7 l0)] [] 0 .skip (.exit 2)) (.seq (.blk 3 (.seq (.reg [f 0 v10,g l0,m v11,a 2 l1 l0,f 1 l0,g l0,m v12,a 2 l1 l0,h 2 l0,w 13 (.al [.t (.int .i64 (0)),.nil] []),u (.st l0 l1 2 [])] []) (.seq (.ite [m v3,f 0 v13,g l0,u (.bin .lss l2 l0),m l0,y 0 false (.mv v3),y 1 false (.bin .gtr l0 (.i 2147483648)),u (.pk l2 (.b true) l0)] [] 0 (.seq (.reg [h 1 v5,u (.st v6 l0 1 []),w 7 (.mv (.i 8))] []) .ret) .skip) (.reg [f 0 v10,g l0,m v11,a 2 l1 l0,f 1 l0,g l0,m v12,h 2 v8,h 2 v13,m v3,u (.ca N.jd 0 [] [.l 2,.l 1,.l 0]),a 2 l5 l4,u (.st l0 l1 2 [])] [(1,11),(3,11),(5,11)])))) (.reg [m v12,u (.bin .add l0 (.i 1)),w 12 (.mv l0)] [])))
def xz:C:= .loop false [0,1,2,4,7,9,13] K.fT
def mR:C:=(.seq (.ite [m v11,f 0 v10,g l0,u (.ln l0),u (.bin .lss l3 l0)] [] 0 .skip (.exit 0)) (.seq (.blk 1 (.seq (.reg [w 12 (.mv (.i 0))] []) (.blk 2 K.xz))) (.reg [m v11,u (.bin .add l0 (.i 1)),w 11 (.mv l0)] [])))
def xA:C:= .loop false [0,1,2,4,7,9,12,13] K.mR
def dZ:Fn:={ nargs:=4,vars:=[0,1,2,3,4,5,8,9,10,11,12,13,14,15],body:=(.seq (.reg [w 4 (.bx v0 2),w 5 (.bx v1 1),w 6 (.al [.nil] []),w 7 (.mv (.i 0))] []) (.seq (.reg [h 1 v5,u (.ca N.dU 2 [] [.l 0]),u (.st v5 l0 1 [])] []) (.seq (.ite [h 2 v4,h 1 v5,u (.ca N.cH 0 [] [.l 1,.l 0]),u (.un .not l0)] [] 0 (.seq (.reg [h 1 v5,u (.st v6 l0 1 []),w 7 (.mv (.i 6))] []) .ret) .skip) (.seq (.reg [h 2 v4,m v2,u (.ca N.eh 0 [] [.l 1,.l 0]),m l0,u (.ex l0 0),u (.ex l1 1),w 8 (.al [.nil,.nil] []),u (.st l0 l2 2 []),w 9 (.mv l2)] []) (.seq (.ite [m v9,u (.bin .neq l0 (.i 0))] [] 0 (.seq (.reg [h 1 v5,m v9,u (.st v6 l1 1 []),w 7 (.mv l1)] []) .ret) .skip) (.seq (.reg [h 1 v5,u (.ca N.dU 2 [] [.l 0]),w 10 (.al [.nil] []),u (.st l0 l1 1 [])] []) (.seq (.seq (.reg [w 11 (.mv (.i 0))] []) (.blk 0 K.xA)) (.seq (.reg [f 0 v10,g l0,u (.ca N.fW 0 [] [.l 0]),f 0 v10,u (.st l0 l1 1 [])] []) (.seq (.reg [h 1 v10,u (.st v6 l0 1 []),w 7 (.mv (.i 0))] []) .ret))))))))),res:=[(6,some (1,true)),(7,none)]}
def rH:C:=(.seq (.ite [m v5,f 0 v1,g l0,m v4,a 2 l1 l0,f 1 l0,g l0,u (.ln l0),u (.bin .lss l7 l0)] [] 0 .skip (.exit 2)) (.seq (.blk 3 (.reg [m v3,f 0 v1,g l0,m v4,a 2 l1 l0,f 1 l0,g l0,m v5,a 2 l1 l0,f 0 l0,g l0,u (.mx [.l 10,.l 0]),w 3 (.mv l0)] [])) (.reg [m v5,u (.bin .add l0 (.i 1)),w 5 (.mv l0)] [])))
def zk:C:= .loop true [0,2] K.rH
def rI:C:=(.seq (.ite [m v4,f 0 v1,g l0,u (.ln l0),u (.bin .lss l3 l0)] [] 0 .skip (.exit 0)) (.seq (.blk 1 (.seq (.reg [w 5 (.mv (.i 0))] []) (.blk 2 K.zk))) (.reg [m v4,u (.bin .add l0 (.i 1)),w 4 (.mv l0)] [])))
def zm:C:= .loop true [0,2,5] K.rI
def kd:Fn:={ nargs:=1,vars:=[0,1,2,3,4,5],body:=(.seq (.reg [w 1 (.bx v0 1),w 2 (.mv (.i 0))] []) (.seq (.reg [w 3 (.mv (.i 0))] []) (.seq (.seq (.reg [w 4 (.mv (.i 0))] []) (.blk 0 K.zm)) (.seq (.reg [m v3,w 2 (.mv l0)] []) .ret)))),res:=[(2,none)]}
end Go.Ev.K
namespace Go.Ev
class fJ [Lib]:Prop where
 pW:Lib.fs N.fS=some K.fS
 tH:Lib.fs N.dZ=some K.dZ
 wc:Lib.fs N.kd=some K.kd
namespace K
variable [Lib] [fJ]
theorem pW:Lib.fs N.fS=some K.fS:=fJ.pW
theorem tH:Lib.fs N.dZ=some K.dZ:=fJ.tH
theorem wc:Lib.fs N.kd=some K.kd:=fJ.wc
end K
end Go.Ev
namespace Go.Ev.K
open Go.Ev
def fA:C:=(.its [u (.bin .lss v8 v7)] [] 0 .skip (.exit 0) (.seq (.blk 1 (.seq (.reg [m v8,a 1 v6 v8,g l0,w 4 (.mv l2),w 5 (.mv l1)] []) (.ite [m v5,m v1,u (.bin .lss l1 l0),m l0,y 0 false (.mv v5),y 1 false (.mv v2),y 2 false (.bin .gtr l1 l0),u (.pk l3 (.b true) l0),m l0,y 0 false (.mv v4),y 1 false (.bin .gtr l0 (.i 0)),y 2 false (.mv l0),y 0 true (.mv v5),y 1 true (.mv v0),y 2 true (.mv v4),y 3 true (.bin .sub l0 (.i 1)),y 4 true (.ia l2 l0 1),y 5 true (.ld l0 1 false),y 6 true (.bin .leq l5 l0),y 10 false (.pk l7 l0 (.b false)),u (.pk l11 (.b true) l0)] [] 0 (.seq (.reg [w 3 (.mv (.b false))] []) .ret) .skip))) (.reg [u (.bin .add v8 (.i 1)),w 8 (.mv l0)] [])))
def tJ:C:= .loop true [3,4,5] K.fA
def eV:Fn:={ nargs:=3,vars:=[0,1,2,6,7,8,9,10,11],body:=(.seq (.reg [w 3 (.mv (.b false))] []) (.seq (.seq (.reg [w 6 (.mv v0),w 7 (.ln l0),w 8 (.mv (.i 0))] []) (.blk 0 K.tJ)) (.seq (.reg [w 3 (.mv (.b true))] []) .ret))),res:=[(3,none)]}
def nH:C:=(.seq (.ite [m v5,m v1,u (.ln l0),u (.bin .lss l2 l0)] [] 0 .skip (.exit 0)) (.seq (.blk 1 (.reg [f 1 v2,g l0,m v1,m v5,a 1 l1 l0,g l0,a 10 l4 l0,f 4 l0,u (.st l0 (.b false) 1 [])] [])) (.reg [m v5,u (.bin .add l0 (.i 1)),w 5 (.mv l0)] [])))
def tK:C:= .loop true [0,4] K.nH
def eh:Fn:={ nargs:=2,vars:=[0,1,2,4,5,6],body:=(.seq (.reg [w 2 (.bx v0 2),w 3 (.al [.nil,.nil] []),w 4 (.mv (.i 0))] []) (.seq (.ite [h 2 v2,u (.ca N.cX 0 [] [.l 0]),u (.bin .neq l0 (.i 0))] [] 0 (.seq (.reg [u (.bd [.nil,.nil] []),u (.st v3 l0 2 []),w 4 (.mv (.i 6))] []) .ret) .skip) (.seq (.ite [m v1,f 1 v2,g l0,u (.ln l0),u (.ca N.jF 0 [] [.l 3,.l 0]),u (.un .not l0)] [] 0 (.seq (.reg [u (.bd [.nil,.nil] []),u (.st v3 l0 2 []),w 4 (.mv (.i 4))] []) .ret) .skip) (.seq (.reg [h 2 v2,u (.ca N.je 1 [] [.l 0]),u (.st v2 l0 2 [])] []) (.seq (.seq (.reg [w 5 (.mv (.i 0))] []) (.blk 0 K.tK)) (.seq (.reg [h 2 v2,u (.st v3 l0 2 []),w 4 (.mv (.i 0))] []) .ret)))))),res:=[(3,some (2,true)),(4,none)]}
def mS:C:=(.seq (.ite [m v7,m v6,u (.ln l0),u (.bin .lss l2 l0)] [] 0 .skip (.exit 0)) (.seq (.blk 1 (.ite [m v6,m v7,a 1 l1 l0,g l0,m v2,u (.bin .gtr l1 l0)] [] 0 (.reg [m v6,m v7,a 1 l1 l0,u (.st l0 (.i 1099511627776) 1 [])] []) .skip)) (.reg [m v7,u (.bin .add l0 (.i 1)),w 7 (.mv l0)] [])))
def xB:C:= .loop true [0,1,4] K.mS
def jd:Fn:={ nargs:=3,vars:=[0,1,2,3,4,6,7,8],body:=(.seq (.reg [w 3 (.bx v0 2),w 4 (.bx v1 2),w 5 (.al [.t (.int .i64 (0)),.nil] [])] []) (.seq (.reg [f 1 v4,g l0,u (.app (.c (.nil)) l0 true 1),w 6 (.mv l0)] []) (.seq (.seq (.reg [w 7 (.mv (.i 0))] []) (.blk 0 K.xB)) (.seq (.reg [m v2,h 2 v3,m v6,m v2,u (.ca N.dQ 0 [] [.l 2,.l 1,.l 0]),u (.bd [.t (.int .i64 (0)),.nil] [(0,1,.l 4),(1,1,.l 0)]),u (.st v5 l0 2 [])] []) .ret)))),res:=[(5,some (2,true))]}
def mT:C:=(.its [u (.bin .lss v11 v10)] [] 0 .skip (.exit 2) (.seq (.blk 3 (.seq (.reg [a 2 v9 v11,h 2 l0,w 5 (.al [.t (.int .i64 (0)),.nil] []),u (.st l0 l1 2 [])] []) (.ite [m v1,u (.mf N.cB [.v 5]),u (.ca N.az 0 [] [.l 1,.l 0])] [] 0 (.seq (.reg [w 3 (.mv (.b false))] []) .ret) .skip))) (.reg [u (.bin .add v11 (.i 1)),w 11 (.mv l0)] [])))
def xC:C:= .loop true [0,2,3,4,5] K.mT
def mU:C:=(.its [u (.bin .lss v8 v7)] [] 0 .skip (.exit 0) (.seq (.blk 1 (.seq (.reg [a 2 v6 v8,h 2 l0,w 4 (.al [.nil,.nil] []),u (.st l0 l1 2 [])] []) (.seq (.reg [f 1 v4,w 9 (.ld l0 1 false),w 10 (.ln l0),w 11 (.mv (.i 0))] []) (.blk 2 K.xC)))) (.reg [u (.bin .add v8 (.i 1)),w 8 (.mv l0)] [])))
def xD:C:= .loop true [0,2,3,4,5,9,10,11] K.mU
def ga:Fn:={ nargs:=2,vars:=[0,1,2,4,6,8,10,11,12,17,18,19],body:=(.seq (.reg [w 2 (.bx v0 1),w 3 (.mv (.b false))] []) (.seq (.seq (.reg [f 0 v2,w 6 (.ld l0 1 false),w 7 (.ln l0),w 8 (.mv (.i 0))] []) (.blk 0 K.xD)) (.seq (.reg [w 3 (.mv (.b true))] []) .ret))),res:=[(3,none)]}
def jI:C:=(.seq (.ite [m v7,m v6,u (.ln l0),u (.bin .lss l2 l0)] [] 0 .skip (.exit 4)) (.seq (.blk 5 (.ite [m v1,m v7,u (.ca N.fH 0 [] [.l 1,.l 0]),m l0,y 0 true (.mv v6),y 1 true (.mv v7),y 2 true (.ia l1 l0 1),y 3 true (.ld l0 1 false),y 4 true (.bin .neq l0 (.i 1099511627776)),u (.pk l5 l0 (.b false))] [] 0 (.seq (.reg [w 3 (.mv (.b false))] []) .ret) .skip)) (.reg [m v7,u (.bin .add l0 (.i 1)),w 7 (.mv l0)] [])))
def vh:C:= .loop true [0,3] K.jI
def lN:C:=(.seq (.ite [m v5,f 0 v2,g l0,m v4,a 2 l1 l0,f 1 l0,g l0,u (.ln l0),u (.bin .lss l7 l0)] [] 0 .skip (.exit 2)) (.seq (.blk 3 (.seq (.reg [f 0 v2,g l0,m v4,a 2 l1 l0,f 1 l0,g l0,m v5,a 2 l1 l0,f 1 l0,g l0,w 6 (.mv l0)] []) (.seq (.reg [w 7 (.mv (.i 0))] []) (.blk 4 K.vh)))) (.reg [m v5,u (.bin .add l0 (.i 1)),w 5 (.mv l0)] [])))
def vi:C:= .loop true [0,3,6,7] K.lN
def lO:C:=(.seq (.ite [m v4,f 0 v2,g l0,u (.ln l0),u (.bin .lss l3 l0)] [] 0 .skip (.exit 0)) (.seq (.blk 1 (.seq (.reg [w 5 (.mv (.i 0))] []) (.blk 2 K.vi))) (.reg [m v4,u (.bin .add l0 (.i 1)),w 4 (.mv l0)] [])))
def vj:C:= .loop true [0,3,5,6,7] K.lO
def fw:Fn:={ nargs:=2,vars:=[0,1,2,4,5,6,7,8],body:=(.seq (.reg [w 2 (.bx v0 1),w 3 (.mv (.b false))] []) (.seq (.seq (.reg [w 4 (.mv (.i 0))] []) (.blk 0 K.vj)) (.seq (.reg [w 3 (.mv (.b true))] []) .ret))),res:=[(3,none)]}
def je:Fn:={ nargs:=1,vars:=[0,1,2],body:=(.seq (.reg [w 1 (.bx v0 2),w 2 (.al [.nil,.nil] [])] []) (.seq (.reg [f 0 v1,g l0,u (.app (.c (.nil)) l0 true 2),f 1 v1,g l0,u (.app (.c (.nil)) l0 true 10),u (.bd [.nil,.nil] [(0,1,.l 3),(1,1,.l 0)]),u (.st v2 l0 2 [])] [(4,0)]) .ret)),res:=[(2,some (2,true))]}
def cB:Fn:={ nargs:=2,vars:=[0,1,3],body:=(.seq (.reg [w 2 (.mv (.b false))] []) (.seq (.reg [m v0,f 1 v1,g l0,u (.ln l0),u (.bin .sub l0 (.i 1)),u (.ca N.fg 0 [] [.l 4,.i 0,.l 0]),m l0,y 0 true (.fa v1 1),y 1 true (.ld l0 1 false),y 2 true (.mv v0),y 3 true (.ia l1 l0 1),y 4 true (.ld l0 1 false),y 5 true (.bin .neq l0 (.i 1099511627776)),u (.pk l6 l0 (.b false)),w 2 (.mv l0)] []) .ret)),res:=[(2,none)]}
def mI:C:=(.seq (.ite [m v4,f 0 v1,g l0,u (.ln l0),u (.bin .lss l3 l0)] [] 0 .skip (.exit 0)) (.seq (.blk 1 (.reg [f 0 v3,g l0,f 0 v1,g l0,m v4,a 2 l1 l0,h 2 l0,u (.ca N.bC 1 [] [.l 0]),u (.bsr [.l 0] 2),u (.app l7 l0 false 2),f 0 v3,u (.st l0 l1 1 [])] [(1,8),(1,9)])) (.reg [m v4,u (.bin .add l0 (.i 1)),w 4 (.mv l0)] [])))
def sn:C:= .loop false [0] K.mI
def dU:Fn:={ nargs:=1,vars:=[0,1,2,3,4],body:=(.seq (.reg [w 1 (.bx v0 1),w 2 (.al [.nil] [])] []) (.seq (.reg [w 3 (.al [.nil] [(0,2)])] []) (.seq (.seq (.reg [w 4 (.mv (.i 0))] []) (.blk 0 K.sn)) (.seq (.reg [h 1 v3,u (.st v2 l0 1 [])] []) .ret)))),res:=[(2,some (1,true))]}
def mJ:C:=(.seq (.ite [m v4,f 0 v1,g l0,u (.ln l0),u (.bin .lss l3 l0)] [] 0 .skip (.exit 0)) (.seq (.blk 1 (.reg [f 0 v3,g l0,f 0 v1,g l0,m v4,a 2 l1 l0,h 2 l0,u (.ca N.b9 2 [] [.l 0]),u (.bsr [.l 0] 2),u (.app l7 l0 false 2),f 0 v3,u (.st l0 l1 1 [])] [(1,8),(1,9)])) (.reg [m v4,u (.bin .add l0 (.i 1)),w 4 (.mv l0)] [])))
def sq:C:= .loop false [0] K.mJ
def eO:Fn:={ nargs:=1,vars:=[0,1,2,3,4],body:=(.seq (.reg [w 1 (.bx v0 1),w 2 (.al [.nil] [])] []) (.seq (.reg [w 3 (.al [.nil] [(0,2)])] []) (.seq (.seq (.reg [w 4 (.mv (.i 0))] []) (.blk 0 K.sq)) (.seq (.reg [h 1 v3,u (.st v2 l0 1 [])] []) .ret)))),res:=[(2,some (1,true))]}
def jm:C:=(.seq (.ite [m v4,f 1 v1,g l0,u (.ln l0),u (.bin .lss l3 l0)] [] 0 .skip (.exit 0)) (.seq (.blk 1 (.reg [f 1 v3,g l0,f 1 v1,g l0,m v4,a 2 l1 l0,h 2 l0,u (.ca N.cz 1 [] [.l 0]),u (.bsr [.l 0] 2),u (.app l7 l0 false 2),f 1 v3,u (.st l0 l1 1 [])] [(1,8),(1,9)])) (.reg [m v4,u (.bin .add l0 (.i 1)),w 4 (.mv l0)] [])))
def m5:C:= .loop false [0] K.jm
def b9:Fn:={ nargs:=1,vars:=[0,1,2,3,4],body:=(.seq (.reg [w 1 (.bx v0 2),w 2 (.al [.nil,.nil] [])] []) (.seq (.reg [f 0 v1,g l0,u (.app (.c (.nil)) l0 false 1),u (.bd [.nil,.nil] [(0,1,.l 0)]),w 3 (.al [.nil,.nil] [(1,2)]),u (.st l0 l1 2 [(1,2)])] []) (.seq (.seq (.reg [w 4 (.mv (.i 0))] []) (.blk 0 K.m5)) (.seq (.reg [h 2 v3,u (.st v2 l0 2 [])] []) .ret)))),res:=[(2,some (2,true))]}
end Go.Ev.K
namespace Go.Ev
class eY [Lib]:Prop where
 pX:Lib.fs N.eV=some K.eV
 pY:Lib.fs N.eh=some K.eh
 tM:Lib.fs N.jd=some K.jd
 tN:Lib.fs N.ga=some K.ga
 rJ:Lib.fs N.fw=some K.fw
 tO:Lib.fs N.je=some K.je
 pZ:Lib.fs N.cB=some K.cB
 oJ:Lib.fs N.dU=some K.dU
 oK:Lib.fs N.eO=some K.eO
 j3:Lib.fs N.b9=some K.b9
namespace K
variable [Lib] [eY]
theorem pX:Lib.fs N.eV=some K.eV:=eY.pX
theorem pY:Lib.fs N.eh=some K.eh:=eY.pY
theorem tM:Lib.fs N.jd=some K.jd:=eY.tM
theorem tN:Lib.fs N.ga=some K.ga:=eY.tN
theorem rJ:Lib.fs N.fw=some K.fw:=eY.rJ
theorem tO:Lib.fs N.je=some K.je:=eY.tO
theorem pZ:Lib.fs N.cB=some K.cB:=eY.pZ
theorem oJ:Lib.fs N.dU=some K.dU:=eY.oJ
theorem oK:Lib.fs N.eO=some K.eO:=eY.oK
theorem j3:Lib.fs N.b9=some K.b9:=eY.j3
end K
end Go.Ev
namespace Go.Ev
open Go
variable [Lib] [bW] [bL] [fJ] [eY]
def N3(l:List Int)(lo hi:Int)(j:Nat):Bool:= !decide (lo≤nth l j∧nth l j≤hi∧(0<j→nth l (j-1)<nth l j))
def Tn(l:List Int)(lo hi:Int):Bool:= !((List.range l.length).any (N3 l lo hi))
theorem FY(l:List Int)(lo hi:Int)(hl:l.length≤4294967296):aE 0 N.eV [.t (tL l),I lo,I hi] []=some (B (Tn l lo hi),[]):=by
 refine ak K.pX rfl ?_
 have loop:∀a b c:D,exS aE K.tJ ⟨[.t (tL l),I lo,I hi,a,b,c,.t (tL l),I l.length,I 0],[]⟩=
  some (if(List.range l.length).any (N3 l lo hi)=true
   then(.ret,⟨[.t (tL l),I lo,I hi,B false,I (iY l.length (N3 l lo hi)),I (nth l (iY l.length (N3 l lo hi))),.t (tL l),I l.length,I (iY l.length (N3 l lo hi))],[]⟩)
   else(.exit 0,⟨[.t (tL l),I lo,I hi,.und,.und,.und,.t (tL l),I l.length,I l.length],[]⟩)):=by
  intro a b c
  refine oD (fun j=>⟨[.t (tL l),I lo,I hi,.und,.und,.und,.t (tL l),I l.length,I j],[]⟩) l.length (N3 l lo hi) (fun j=>(.ret,⟨[.t (tL l),I lo,I hi,B false,I j,I (nth l j),.t (tL l),I l.length,I j],[]⟩)) _ rfl ?_ ?_ ?_ (by simp)
  · intro j hj hp
    simp only[N3,Bool.not_eq_false',decide_eq_true_eq]at hp
    obtain⟨h1,h2,h3⟩:=hp
    cases j with
    | zero=>simp(disch:=omega)only[go_sem,K.fA,↓reduceIte]
    | succ j=>
      have h3:=h3 (by omega)
      rw[Nat.add_sub_cancel]at h3
      simp(disch:=omega)only[go_sem,K.fA,↓reduceIte]
  · intro j hj hp
    simp only[N3,Bool.not_eq_true',decide_eq_false_iff_not]at hp
    refine⟨?_,by simp⟩
    by_cases h1:lo≤nth l j
    · by_cases h2:nth l j≤hi
      · cases j with
        | zero=>exact absurd ⟨h1,h2,fun h=>absurd h (by omega)⟩ hp
        | succ j=>
          have h3:¬nth l j<nth l (j+1):=fun h=>hp ⟨h1,h2,fun _=>by simpa using h⟩
          simp(disch:=omega)only[go_sem,K.fA,↓reduceIte]
      · simp(disch:=omega)only[go_sem,K.fA,↓reduceIte]
    · simp(disch:=omega)only[go_sem,K.fA,↓reduceIte]
  · simp(disch:=omega)only[go_sem,K.fA,↓reduceIte]
 unfold Tn
 simp(disch:=omega)only[go_sem,K.eV,↓reduceIte,loop]
 cases hf:(List.range l.length).any (N3 l lo hi)with
 | true=>simp(disch:=omega)only[go_sem,↓reduceIte]
 | false=>simp(disch:=omega)only[go_sem,↓reduceIte,Bool.false_eq_true]
theorem Wg(l:List Int)(n:Int):Tn l 0 (n-1)=tw l n:=by
 unfold Tn tw
 rw[NJ]
 refine congrArg (!·) (congrArg _ (funext fun j=>?_))
 unfold N3
 refine congrArg (!·) (decide_eq_decide.2 ⟨fun h=>⟨h.1,by omega,h.2.2⟩,fun h=>⟨h.1,by omega,h.2.2⟩⟩)
structure aeI where
 st:Int
 fi:Int
 se:Int
 ti:Int
abbrev aeI.e(s:aeI):T:= .agg [tI s.st,tI s.fi,tI s.se,tI s.ti]
structure Rf where
 area:List Int
 hold:Int
 mis:Int
abbrev Rf.e(x:Rf):T:= .agg [tL x.area,tI x.hold,tI x.mis]
structure Keys where
 roads:List Int
 keys:List Int
 out:Bool
abbrev Keys.e(k:Keys):T:= .agg [tL k.roads,tL k.keys,.bool k.out]
end Go.Ev
namespace Go.Ev
open Go
variable [Lib] [bW] [bL] [fJ] [eY] [fM] [fN] [iI] [gu]
theorem KY(x:Int):aE 0 N.bS [I x] []=some (B (!decide (plT x)),[]):=by
 refine ak K.mH rfl ?_
 have i:=FM x 0 2147483648
 unfold plT inT
 by_cases c:x=1099511627776
 · subst c
   simp(disch:=omega)only[go_sem,K.bS,↓reduceIte,Nat.reduceAdd,Nat.reduceSub]
 · by_cases c2:0≤x∧x≤2147483648
   · simp only[c2,and_self,decide_true]at i
     simp(disch:=omega)only[go_sem,K.bS,↓reduceIte,i,c,c2,false_or,and_self,decide_true,Nat.reduceAdd,Nat.reduceSub]
   · simp only[c2,decide_false]at i
     simp(disch:=omega)only[go_sem,K.bS,↓reduceIte,i,c,c2,false_or,decide_false,Nat.reduceAdd,Nat.reduceSub]
theorem FZ(m:aM)(hm:m.places.length≤1000000)(w:Wh)(hl:w.frm.length≤1000000):aE 0 N.cP [.t m.e,.t w.e] []=some (B (oC w m.places.length),[]):=by
 refine ak K.oG rfl ?_
 have i:=FM w.time 0 2147483648
 have cf:aE 0 N.az [.t (tL w.frm),.fn N.bS []] []=some (B (w.frm.any fun x=> !decide (plT x)),[]):=lI w.frm (by omega) N.bS [] (fun x=> !decide (plT x)) (fun x _=>KY x)
 have e:oC w m.places.length=(decide ((w.frm.length:Int)=m.places.length∧inT w.time)&& !(w.frm.any fun x=> !decide (plT x))):=by
  unfold oC
  rw[NJ,HW w.frm (fun x=> !decide (plT x))]
 rw[e]
 unfold inT
 generalize (w.frm.any fun x=> !decide (plT x))=r at*
 obtain⟨places,roads⟩:=m
 obtain⟨time,frm⟩:=w
 simp only at*
 clear e
 by_cases c1:(frm.length:Int)=places.length
 · by_cases c2:0≤time∧time≤2147483648
   · simp only[c2,and_self,decide_true]at i
     cases r<;>simp(disch:=omega)only[go_sem,K.cP,↓reduceIte,i,cf,c1,c2,and_self,decide_true,Bool.true_and,Nat.reduceAdd,Nat.reduceSub]
   · simp only[c2,decide_false]at i
     simp(disch:=omega)only[go_sem,K.cP,↓reduceIte,i,cf,c1,c2,and_false,decide_false,Bool.false_and,Nat.reduceAdd,Nat.reduceSub]
 · simp(disch:=omega)only[go_sem,K.cP,↓reduceIte,c1,false_and,decide_false,Bool.false_and,Nat.reduceAdd,Nat.reduceSub]
theorem N4{m:aM}(h:m.ok)(w:Wh)(hl:w.frm.length≤1000000):aE 0 N.eW [.t m.e,.t w.e] []=some (B (dg m w),[]):=by
 refine ak K.pU rfl ?_
 have np:=h.np
 have v:=jH h
 have s:=FZ m (by omega) w hl
 unfold dg
 cases hp:oC w m.places.length with
 | false=>
   rw[hp]at s
   obtain⟨places,roads⟩:=m
   obtain⟨time,frm⟩:=w
   simp only at*
   simp(disch:=omega)only[go_sem,K.eW,↓reduceIte,v,s,Bool.false_and,Nat.reduceAdd,Nat.reduceSub]
 | true=>
   rw[hp]at s
   obtain⟨p1,p2,p3⟩:=rv hp
   have hb:bnd w.frm:=fun x hx=>nF (p3 x hx)
   have lo:=(CH h w.time (by unfold inT at p2;omega) (by unfold inT at p2;omega) w.frm (by omega) hb).1
   have ll:=kS h w.time p2 none (by simp) (l:=w.frm) (by omega) hb
   have eq:=Ab (cV m w.time none w.frm) w.frm (by omega) (by omega)
   generalize cV m w.time none w.frm=c at*
   obtain⟨places,roads⟩:=m
   obtain⟨time,frm⟩:=w
   simp only at*
   clear hb p3
   simp(disch:=omega)only[go_sem,K.eW,↓reduceIte,v,s,lo,eq,Bool.true_and,Nat.reduceAdd,Nat.reduceSub]
def zn(m:aM)(w:Wh)(t:Int):Wh×Int:=if oC w m.places.length=false then(w,6)else if t<w.time∨2147483648<t then(w,8)else(⟨t,cV m t none w.frm⟩,0)
theorem N5{m:aM}(h:m.ok)(w:Wh)(t:Int)(hl:w.frm.length≤1000000):aE 0 N.dG [.t m.e,.t w.e,I t] []=some (.tup [.t (zn m w t).1.e,I (zn m w t).2],[]):=by
 refine ak K.pV rfl ?_
 have np:=h.np
 have v:=jH h
 have s:=FZ m (by omega) w hl
 unfold zn
 cases hp:oC w m.places.length with
 | false=>
   rw[hp]at s
   rw[if_pos rfl]
   obtain⟨places,roads⟩:=m
   obtain⟨time,frm⟩:=w
   simp only at*
   simp(disch:=omega)only[go_sem,K.dG,↓reduceIte,v,s,Nat.reduceAdd,Nat.reduceSub]
 | true=>
   rw[hp]at s
   obtain⟨p1,p2,p3⟩:=rv hp
   have hb:bnd w.frm:=fun x hx=>nF (p3 x hx)
   unfold inT at p2
   by_cases c1:t<w.time
   · rw[if_neg (by simp),if_pos (.inl c1)]
     obtain⟨places,roads⟩:=m
     obtain⟨time,frm⟩:=w
     simp only at*
     simp(disch:=omega)only[go_sem,K.dG,↓reduceIte,v,s,c1,Nat.reduceAdd,Nat.reduceSub]
   · by_cases c2:2147483648<t
     · rw[if_neg (by simp),if_pos (.inr c2)]
       obtain⟨places,roads⟩:=m
       obtain⟨time,frm⟩:=w
       simp only at*
       simp(disch:=omega)only[go_sem,K.dG,↓reduceIte,v,s,c1,c2,Nat.reduceAdd,Nat.reduceSub]
     · have lo:=(CH h t (by omega) (by omega) w.frm (by omega) hb).1
       rw[if_neg (by simp),if_neg (by omega)]
       generalize cV m t none w.frm=c at*
       obtain⟨places,roads⟩:=m
       obtain⟨time,frm⟩:=w
       simp only at*
       clear hb p3
       simp(disch:=omega)only[go_sem,K.dG,↓reduceIte,v,s,c1,c2,lo,Nat.reduceAdd,Nat.reduceSub]
theorem N6(a b:Wh)(ha:a.frm.length≤1000000):aE 0 N.iD [.t a.e,.t b.e] []=some (B (decide (a.time=b.time∧a.frm=b.frm)),[]):=by
 refine ak K.tC rfl ?_
 have s:=tu a.frm b.frm (by omega)
 obtain⟨t1,f1⟩:=a
 obtain⟨t2,f2⟩:=b
 simp only at*
 by_cases c:t1=t2
 · simp(disch:=omega)only[go_sem,K.iD,↓reduceIte,s,c,true_and,Nat.reduceAdd,Nat.reduceSub]
 · simp(disch:=omega)only[go_sem,K.iD,↓reduceIte,s,c,false_and,decide_false,Nat.reduceAdd,Nat.reduceSub]
end Go.Ev
namespace Go.Ev.N
def PT:Nat:=215
def PU:Nat:=216
def PV:Nat:=217
def Wi:Nat:=218
def Wj:Nat:=219
def Wk:Nat:=220
def Zh:Nat:=221
def Zi:Nat:=222
def Zj:Nat:=223
def ab7:Nat:=224
def Wl:Nat:=225
def Wm:Nat:=226
def Wn:Nat:=227
def ab8:Nat:=228
def Wo:Nat:=229
def Wp:Nat:=230
def Zk:Nat:=231
def To:Nat:=232
def Zl:Nat:=233
def Tp:Nat:=234
def Tq:Nat:=235
def Ts:Nat:=236
def Zm:Nat:=237
def Tt:Nat:=238
def ab9:Nat:=239
def aca:Nat:=240
def H7:Nat:=241
def Zn:Nat:=242
def Wq:Nat:=243
def PW:Nat:=244
end Go.Ev.N
namespace Go.Ev.N
def JB:Nat:=245
def H8:Nat:=246
def H9:Nat:=247
def Ws:Nat:=248
def Rg:Nat:=249
def Wt:Nat:=250
def JC:Nat:=251
def PX:Nat:=252
def N7:Nat:=253
def Wu:Nat:=254
def Tu:Nat:=255
def Zo:Nat:=256
def fB:Nat:=257
def KZ:Nat:=258
def rK:Nat:=259
def b7:Nat:=260
def bj:Nat:=261
def fU:Nat:=262
def aS:Nat:=263
def af:Nat:=264
def dq:Nat:=265
def sH:Nat:=266
def aP:Nat:=267
def cu:Nat:=268
def ax:Nat:=269
def cmp_isNaN_int:Nat:=270
end Go.Ev.N
namespace Go.Ev.N
def K0:Nat:=271
def N8:Nat:=272
def N9:Nat:=273
def Mf:Nat:=274
def PY:Nat:=275
def Oa:Nat:=276
def Wv:Nat:=277
def Ww:Nat:=278
def Zp:Nat:=279
def Zq:Nat:=280
def PZ:Nat:=281
def acb:Nat:=282
def Tv:Nat:=283
def Wx:Nat:=284
def Wy:Nat:=285
def jh:Nat:=286
def x7:Nat:=287
def Zr:Nat:=288
def kC:Nat:=289
def gZ:Nat:=290
def Wz:Nat:=291
def WA:Nat:=292
def P0:Nat:=293
def WB:Nat:=294
def WC:Nat:=295
def Tw:Nat:=296
def aI:Nat:=297
def aJ:Nat:=298
def bf:Nat:=299
def bD:Nat:=300
def aA:Nat:=301
def av:Nat:=302
def aQ:Nat:=303
def ay:Nat:=304
def aG:Nat:=305
def bc:Nat:=306
def aK:Nat:=307
def dm:Nat:=308
end Go.Ev.N
namespace Go.Ev.N
def Tx:Nat:=309
def Ob:Nat:=310
def P1:Nat:=311
def bV:Nat:=312
def Oc:Nat:=313
def gv:Nat:=314
def lQ:Nat:=315
def gw:Nat:=316
def dW:Nat:=317
def gy:Nat:=318
def fC:Nat:=319
def gz:Nat:=320
def m6:Nat:=321
def eZ:Nat:=322
def fD:Nat:=323
def cQ:Nat:=324
def kf:Nat:=325
def lT:Nat:=326
def dO:Nat:=327
def fe:Nat:=328
def cR:Nat:=329
def aH:Nat:=330
def aL:Nat:=331
def dt:Nat:=332
def cy:Nat:=333
end Go.Ev.N
namespace Go.Ev.K
open Go.Ev
def bV:Fn:={ nargs:=1,vars:=[0,2,3,4,5,6,7,8,9,53],body:=(.seq (.reg [w 1 (.mv (.b false))] []) (.seq (.ite [m v0,u (.ca N.i6 0 [] [.l 0]),u (.un .not l0)] [] 0 (.seq (.reg [u (.ca N.gv 0 [] []),w 1 (.mv l0)] []) .ret) .skip) (.seq (.reg [m v0,u (.ca N.ka 0 [] [.l 0]),w 2 (.mv l0)] []) (.seq (.reg [m v2,u (.ca N.cL 0 [] [.l 0]),w 3 (.al [.nil,.nil] []),u (.st l0 l1 2 [])] []) (.seq (.reg [m v2,h 2 v3,u (.ca N.cn 0 [] [.l 1,.l 0]),w 4 (.al [.nil] []),u (.st l0 l1 1 [])] []) (.seq (.reg [h 1 v4,u (.ca N.kd 0 [] [.l 0]),m v2,u (.ca N.aB 0 [] [.l 0,.i 90]),u (.bin .add l2 l0),u (.bin .sub l0 (.i 3)),w 5 (.mv l0)] []) (.seq (.reg [m v2,f 0 v3,g l0,u (.ln l0),u (.ca N.b8 0 [] [.l 3,.l 0]),m v2,f 1 v3,g l0,u (.ln l0),u (.ca N.b8 0 [] [.l 3,.l 0]),w 6 (.mv l5),w 7 (.mv l1)] [(7,0)]) (.seq (.ite [h 2 v3,h 1 v4,m v6,m v7,m v2,f 0 v3,g l0,u (.ln l0),u (.ca N.aB 0 [] [.l 3,.l 0]),m v5,u (.bd [.t (.int .i64 (0)),.t (.int .i64 (0))] [(0,1,.l 1),(1,1,.l 0)]),u (.ca N.dW 0 [] [.l 10,.l 9,.l 8,.l 7,.l 0]),u (.un .not l0)] [(0,9),(1,9)] 0 (.seq (.reg [w 1 (.mv (.b false))] []) .ret) .skip) (.seq (.reg [h 1 v4,u (.ca N.eO 3 [] [.l 0]),w 8 (.al [.nil] []),u (.st l0 l1 1 [])] []) (.seq (.seq (.reg [m v2,w 9 (.ca N.aB 0 [] [.l 0,.i 3])] []) (.blk 0 (.ite [u (.bin .eql v9 (.i 0)),m l0] [] 0 (.reg [f 0 v8,u (.st l0 (.c (.nil)) 1 [])] []) (.ite [u (.bin .eql v9 (.i 1)),m l0] [] 0 (.reg [f 0 v8,g l0,a 2 l0 (.i 0),f 1 l0,g l0,a 2 l0 (.i 0),f 1 l0,g l0,a 1 l0 (.i 0),u (.st l0 (.i 5) 1 [])] []) (.seq (.reg [f 1 v3,g l0,u (.app (.c (.nil)) l0 true 10),f 1 v3,u (.st l0 l1 1 [])] []) (.reg [f 1 v3,g l0,f 1 v3,g l0,a 10 l0 (.i 0),f 5 l0,g l0,u (.un .not l0),a 10 l6 (.i 0),f 5 l0,u (.st l0 l2 1 [])] [])))))) (.seq (.reg [u (.ca N.gv 0 [] []),m l0,y 0 true (.ld v3 2 true),y 1 true (.ld v8 1 true),y 2 true (.mv v6),y 3 true (.mv v7),y 4 true (.mv v5),y 5 true (.bd [.t (.int .i64 (0)),.t (.int .i64 (0))] [(0,1,.i 0),(1,1,.l 0)]),y 6 true (.ca N.dW 0 [] [.l 5,.l 4,.l 3,.l 2,.l 0]),u (.pk l7 l0 (.b false)),w 1 (.mv l0)] []) .ret))))))))))),res:=[(1,none)]}
def gv:Fn:={ nargs:=0,vars:=[0,1,2,4,5,6,7,8],body:=(.seq (.reg [w 0 (.mv (.b false))] []) (.seq (.reg [u (.ca N.m6 0 [] []),w 1 (.al [.nil,.nil] []),u (.st l0 l1 2 [])] []) (.seq (.reg [h 2 v1,u (.bs [.i 4] 1),u (.bs [.i 0] 1),u (.ca N.dy 0 [] [.l 2,.l 1,.l 0,.i 0]),m l0,u (.ex l0 0),u (.ex l1 1),w 2 (.al [.nil] []),u (.st l0 l2 1 []),m l2] []) (.seq (.reg [h 2 v1,h 1 v2,u (.bs [.i 1] 1),u (.ca N.gw 0 [] [.l 2,.l 1,.l 0,.i 15]),m l0,u (.ex l0 0),u (.ex l1 1),w 3 (.al [.nil] []),u (.st l0 l2 1 []),w 4 (.mv l2)] []) (.seq (.reg [h 2 v1,u (.ca N.lQ 0 [] [.l 0,.i 2,.i 12]),m l0,u (.ex l0 0),u (.ex l1 1),w 5 (.mv l1),w 6 (.mv l1)] []) (.seq (.reg [h 2 v1,u (.bs [.i 2] 1),u (.ca N.gy 0 [] [.l 1,.l 0]),w 7 (.mv l0)] []) (.seq (.reg [m v4,u (.bin .eql l0 (.i 0)),m l0,y 0 true (.ld v3 1 true),y 1 true (.bs [.i 2] 1),y 2 true (.ca N.ga 0 [] [.l 1,.l 0]),u (.pk l3 l0 (.b false)),m l0,y 0 true (.ld v3 1 true),y 1 true (.bs [.i 1] 1),y 2 true (.ca N.ga 0 [] [.l 1,.l 0]),y 3 true (.un .not l0),u (.pk l4 l0 (.b false)),m l0,y 0 true (.mv v6),y 1 true (.bin .eql l0 (.i 0)),u (.pk l2 l0 (.b false)),m l0,y 0 true (.mv v5),y 1 true (.ln l0),y 2 true (.bin .eql l0 (.i 2)),u (.pk l3 l0 (.b false)),m l0,y 0 true (.mv v5),y 1 true (.ia l0 (.i 0) 1),y 2 true (.ld l0 1 false),y 3 true (.bin .eql l0 (.i 1)),u (.pk l4 l0 (.b false)),m l0,y 0 true (.mv v7),y 1 true (.ln l0),y 2 true (.bin .eql l0 (.i 1)),u (.pk l3 l0 (.b false)),m l0,y 0 true (.mv v7),y 1 true (.ia l0 (.i 0) 1),y 2 true (.ld l0 1 false),y 3 true (.bin .eql l0 (.i 1)),u (.pk l4 l0 (.b false)),w 0 (.mv l0)] []) .ret))))))),res:=[(0,none)]}
def kD:C:=(.its [u (.bin .lss v13 v12)] [] 0 .skip (.exit 3) (.seq (.blk 4 (.seq (.reg [a 10 v11 v13,h 10 l0,w 9 (.al [.t (.int .i64 (0)),.t (.int .i64 (0)),.t (.int .i64 (0)),.t (.int .i64 (0)),.t (.bool false),.t (.bool false),.t (.int .i64 (0)),.t (.int .i64 (0)),.t (.int .i64 (0)),.t (.int .i64 (0))] []),u (.st l0 l1 10 [])] []) (.seq (.reg [g v7,f 0 v9,g l0,a 1 l2 l0,g l0,g v7,f 1 v9,g l0,a 1 l2 l0,g l0,u (.mn [.l 5,.l 0]),f 2 v9,g l0,u (.bin .add l2 l0),w 10 (.mv l0)] []) (.ite [f 5 v9,g l0,u (.un .not l0),m l0,y 0 true (.mv v10),y 1 true (.ld v7 1 false),y 2 true (.fa v9 0),y 3 true (.ld l0 1 false),y 4 true (.ia l2 l0 1),y 5 true (.ld l0 1 false),y 6 true (.ld v7 1 false),y 7 true (.fa v9 1),y 8 true (.ld l0 1 false),y 9 true (.ia l2 l0 1),y 10 true (.ld l0 1 false),y 11 true (.mx [.l 5,.l 0]),y 12 true (.bin .lss l11 l0),u (.pk (.l 13) l0 (.b false))] [] 0 (.seq (.reg [g v7,f 0 v9,g l0,g v7,f 1 v9,g l0,g v7,f 0 v9,g l0,a 1 l2 l0,g l0,m v10,u (.mn [.l 1,.l 0]),g v7,f 1 v9,g l0,a 1 l2 l0,g l0,m v10,u (.mn [.l 1,.l 0]),a 1 (.l 19) (.l 17),u (.st l0 l8 1 []),a 1 (.l 18) (.l 16),u (.st l0 l3 1 [])] [(3,22),(5,22)]) (.reg [w 8 (.mv (.b true))] [])) .skip)))) (.reg [u (.bin .add v13 (.i 1)),w 13 (.mv l0)] [])))
def CI:C:= .loop true [0,1,2,5,6,9,10] K.kD
def rL:C:=(.seq (.ite [m v8] [] 0 .skip (.exit 1)) (.blk 2 (.seq (.reg [w 8 (.mv (.b false))] []) (.seq (.reg [f 1 v3,w 11 (.ld l0 1 false),w 12 (.ln l0),w 13 (.mv (.i 0))] []) (.blk 3 K.CI)))))
def CJ:C:= .loop true [0,1,2,5,6,9,10,11,12,13] K.rL
def lQ:Fn:={ nargs:=3,vars:=[0,1,2,3,5,6,7,8,9,11,12,38,39,40],body:=(.seq (.reg [w 3 (.bx v0 2),w 4 (.bx v2 1),w 5 (.mv (.c (.nil))),w 6 (.mv (.i 0))] []) (.seq (.blk 0 (.ite [h 2 v3,u (.ca N.eG 0 [] [.l 0]),u (.un .not l0),m l0] [] 0 (.seq (.reg [w 5 (.mv (.c (.nil))),w 6 (.mv (.i 6))] []) .ret) (.ite [m v1,f 0 v3,g l0,u (.ln l0),u (.bin .sub l0 (.i 1)),u (.ca N.fg 0 [] [.l 4,.i 0,.l 0]),u (.un .not l0),m l0] [] 0 (.seq (.reg [w 5 (.mv (.c (.nil))),w 6 (.mv (.i 3))] []) .ret) (.ite [g v4,u (.bin .lss l0 (.i 0)),m l0] [] 0 (.seq (.reg [w 5 (.mv (.c (.nil))),w 6 (.mv (.i 1))] []) .ret) .skip)))) (.seq (.reg [u (.bs [.i 1099511627776] 1),f 0 v3,g l0,u (.ln l0),u (.ca N.aZ 1 [] [.l 3,.l 0]),w 7 (.al [.nil] []),u (.st l0 l1 1 [])] []) (.seq (.reg [g v7,m v1,a 1 l1 l0,u (.st l0 (.i 0) 1 [])] []) (.seq (.seq (.reg [w 8 (.mv (.b true))] []) (.blk 1 K.CJ)) (.seq (.reg [g v7,u (.ln l0),u (.mf N.eZ [.v 7,.v 4]),u (.ca N.bZ 0 [] [.l 1,.l 0]),w 5 (.mv l0),w 6 (.mv (.i 0))] []) .ret)))))),res:=[(5,none),(6,none)]}
def rM:C:=(.its [u (.bin .lss (.v 24) v23)] [] 0 .skip (.exit 2) (.seq (.blk 3 (.seq (.reg [m (.v 24),a 2 v22 (.v 24),h 2 l0,w 16 (.al [.t (.int .i64 (0)),.nil] []),w 15 (.mv l3),u (.st l1 l2 2 [])] []) (.seq (.reg [h 2 v9,h 2 v16,g v6,u (.ca N.kf 0 [] [.l 2,.l 1,.l 0]),m l0,u (.ex l0 0),u (.ex l1 1),w 17 (.al [.t (.int .i64 (0)),.nil] []),u (.st l0 l2 2 []),w 18 (.mv l2)] []) (.seq (.ite [m v18,u (.bin .neq l0 (.i 0))] [] 0 (.seq (.reg [h 1 v5,m v18,u (.st v7 l1 1 []),w 8 (.mv l1)] []) .ret) .skip) (.reg [f 1 v14,g l0,m v15,h 2 v17,a 2 l2 l1,u (.st l0 l1 2 [])] []))))) (.reg [u (.bin .add (.v 24) (.i 1)),w 24 (.mv l0)] [])))
def zo:C:= .loop true [0,1,2,3,4,8,10,11,13,15,16,17,18] K.rM
def n9:C:=(.its [u (.bin .lss v21 v20)] [] 0 .skip (.exit 0) (.seq (.blk 1 (.seq (.reg [a 2 v19 v21,h 2 l0,w 13 (.al [.nil,.nil] []),u (.st l0 l1 2 [])] []) (.seq (.reg [h 2 v13,u (.ca N.dm 1 [] [.l 0]),w 14 (.al [.nil,.nil] []),u (.st l0 l1 2 [])] []) (.seq (.seq (.reg [f 1 v13,w 22 (.ld l0 1 false),w 23 (.ln l0),w 24 (.mv (.i 0))] []) (.blk 2 K.zo)) (.reg [m v12,h 2 v14,u (.bs [.l 0] 2),u (.app l2 l0 true 2),w 12 (.mv l0)] []))))) (.reg [u (.bin .add v21 (.i 1)),w 21 (.mv l0)] [])))
def zp:C:= .loop true [0,1,2,3,4,8,10,11,13,14,15,16,17,18,22,23,24] K.n9
def gw:Fn:={ nargs:=4,vars:=[0,1,2,3,4,5,7,8,9,10,11,12,13,15,16,17,18,19,20,47,48,49,56,57,58],body:=(.seq (.reg [w 4 (.bx v0 2),w 5 (.bx v1 1),w 6 (.bx v3 1),w 7 (.al [.nil] []),w 8 (.mv (.i 0))] []) (.seq (.ite [h 2 v4,h 1 v5,u (.ca N.fB 0 [] [.l 1,.l 0]),u (.un .not l0)] [] 0 (.seq (.reg [h 1 v5,u (.st v7 l0 1 []),w 8 (.mv (.i 6))] []) .ret) .skip) (.seq (.reg [h 2 v4,m v2,u (.ca N.fC 0 [] [.l 1,.l 0]),m l0,u (.ex l0 0),u (.ex l1 1),w 9 (.al [.nil,.nil] []),u (.st l0 l2 2 []),w 10 (.mv l2)] []) (.seq (.ite [m v10,u (.bin .neq l0 (.i 0))] [] 0 (.seq (.reg [h 1 v5,m v10,u (.st v7 l1 1 []),w 8 (.mv l1)] []) .ret) .skip) (.seq (.reg [u (.mf N.fD [.v 6]),w 11 (.mv l0)] []) (.seq (.ite [g v6,u (.bin .gtr l0 (.i 2147483648)),m l0,y 0 false (.fa v5 0),y 1 false (.ld l0 1 false),y 2 false (.mv v11),y 3 false (.ca N.aq 0 [] [.l 1,.l 0]),u (.pk l4 (.b true) l0)] [] 0 (.seq (.reg [h 1 v5,u (.st v7 l0 1 []),w 8 (.mv (.i 8))] []) .ret) .skip) (.seq (.reg [w 12 (.nw 2)] []) (.seq (.seq (.reg [f 0 v5,w 19 (.ld l0 1 false),w 20 (.ln l0),w 21 (.mv (.i 0))] []) (.blk 0 K.zp)) (.seq (.reg [m v12,u (.ca N.gZ 0 [] [.l 0]),u (.bd [.nil] [(0,1,.l 0)]),u (.st v7 l0 1 []),w 8 (.mv (.i 0))] []) .ret))))))))),res:=[(7,some (1,true)),(8,none)]}
def dW:Fn:={ nargs:=5,vars:=[0,1,2,3,4,5,6,9,10,11,12,13,14,15,16,17,18,19,20,21,22],body:=(.seq (.reg [w 5 (.bx v0 2),w 6 (.bx v1 1),w 7 (.bx v4 2),w 8 (.mv (.b false))] []) (.seq (.reg [h 2 v5,u (.iaa v7 (.i 0) 2 1),g l0,u (.iaa v7 (.i 1) 2 1),g l0,u (.ca N.lQ 0 [] [.l 4,.l 2,.l 0]),m l0,u (.ex l0 0),u (.ex l1 1),w 9 (.mv l1),w 10 (.mv l1)] []) (.seq (.reg [h 2 v5,u (.iaa v7 (.i 0) 2 1),g l0,u (.iaa v7 (.i 1) 2 1),g l0,u (.ca N.lT 0 [] [.l 4,.l 2,.l 0]),m l0,u (.ex l0 0),u (.ex l1 1),w 11 (.mv l1),w 12 (.mv l1)] []) (.seq (.reg [h 2 v5,m v3,u (.ca N.fC 0 [] [.l 1,.l 0]),m l0,u (.ex l0 0),u (.ex l1 1),w 13 (.al [.nil,.nil] []),u (.st l0 l2 2 []),w 14 (.mv l2)] []) (.seq (.reg [h 2 v5,m v3,u (.ca N.eh 0 [] [.l 1,.l 0]),m l0,u (.ex l0 0),u (.ex l1 1),w 15 (.al [.nil,.nil] []),u (.st l0 l2 2 []),w 16 (.mv l2)] []) (.seq (.reg [h 2 v5,h 1 v6,m v3,u (.iaa v7 (.i 1) 2 1),g l0,u (.ca N.gw 0 [] [.l 4,.l 3,.l 2,.l 0]),m l0,u (.ex l0 0),u (.ex l1 1),w 17 (.al [.nil] []),u (.st l0 l2 1 []),w 18 (.mv l2)] []) (.seq (.reg [h 2 v5,h 1 v6,m v3,u (.iaa v7 (.i 1) 2 1),g l0,u (.ca N.dZ 0 [] [.l 4,.l 3,.l 2,.l 0]),m l0,u (.ex l0 0),u (.ex l1 1),w 19 (.al [.nil] []),u (.st l0 l2 1 []),w 20 (.mv l2)] []) (.seq (.reg [m v10,m v12,u (.bin .eql l1 l0),m l0,y 0 true (.mv v9),y 1 true (.mv v11),y 2 true (.ca N.bI 0 [] [.l 1,.l 0]),u (.pk l3 l0 (.b false)),m l0,y 0 true (.mv v14),y 1 true (.mv v16),y 2 true (.bin .eql l1 l0),u (.pk l3 l0 (.b false)),m l0,y 0 true (.ld v13 2 true),y 1 true (.ld v15 2 true),y 2 true (.ca N.dO 0 [] [.l 1,.l 0]),u (.pk l3 l0 (.b false)),m l0,y 0 true (.mv v18),y 1 true (.mv v20),y 2 true (.bin .eql l1 l0),u (.pk l3 l0 (.b false)),m l0,y 0 true (.ld v17 1 true),y 1 true (.ld v19 1 true),y 2 true (.ca N.jh 0 [] [.l 1,.l 0]),u (.pk l3 l0 (.b false)),m l0,y 0 true (.ld v5 2 true),y 1 true (.mv v2),y 2 true (.ca N.gy 0 [] [.l 1,.l 0]),y 3 true (.ld v5 2 true),y 4 true (.mv v2),y 5 true (.ca N.fS 0 [] [.l 1,.l 0]),y 6 true (.ca N.bI 0 [] [.l 3,.l 0]),u (.pk l7 l0 (.b false)),m l0,y 0 true (.ld v6 1 true),y 1 true (.mv v2),y 2 true (.ca N.ga 0 [] [.l 1,.l 0]),y 3 true (.ld v6 1 true),y 4 true (.mv v2),y 5 true (.ca N.fw 0 [] [.l 1,.l 0]),y 6 true (.eqk (.bool) false l3 l0),u (.pk l7 l0 (.b false)),m l0,y 0 true (.ld v19 1 true),y 1 true (.mv v2),y 2 true (.ca N.ga 0 [] [.l 1,.l 0]),y 3 true (.ld v19 1 true),y 4 true (.mv v2),y 5 true (.ca N.fw 0 [] [.l 1,.l 0]),y 6 true (.eqk (.bool) false l3 l0),u (.pk l7 l0 (.b false)),m l0,y 0 true (.ld v6 1 true),y 1 true (.mv v2),y 2 true (.iaa v7 (.i 1) 2 1),y 3 true (.ld l0 1 false),y 4 true (.ca N.gz 0 [] [.l 3,.l 2,.l 0]),y 5 true (.ld v6 1 true),y 6 true (.mv v2),y 7 true (.iaa v7 (.i 1) 2 1),y 8 true (.ld l0 1 false),y 9 true (.ca N.fe 0 [] [.l 3,.l 2,.l 0]),y 10 true (.ca N.bI 0 [] [.l 5,.l 0]),u (.pk l11 l0 (.b false)),w 8 (.mv l0)] [(32,27),(41,36),(50,44),(61,53),(64,53)]) .ret)))))))),res:=[(8,none)]}
def gy:Fn:={ nargs:=2,vars:=[0,1,2,3,4],body:=(.seq (.reg [w 2 (.bx v0 2),w 3 (.bx v1 1),w 4 (.mv (.c (.nil)))] []) (.seq (.reg [f 1 v2,g l0,u (.ln l0),u (.mf N.cR [.v 2,.v 3]),u (.ca N.bZ 0 [] [.l 1,.l 0]),w 4 (.mv l0)] []) .ret)),res:=[(4,none)]}
def oL:C:=(.its [u (.bin .lss v9 v8)] [] 0 .skip (.exit 1) (.seq (.blk 2 (.seq (.reg [a 1 v7 v9,g l0,w 6 (.mv l0)] []) (.reg [f 1 v5,g l0,m v6,a 10 l1 l0,f 4 l0,u (.st l0 (.b false) 1 [])] []))) (.reg [u (.bin .add v9 (.i 1)),w 9 (.mv l0)] [])))
def vk:C:= .loop true [0,1,2,4,6] K.oL
def fC:Fn:={ nargs:=2,vars:=[0,1,2,4,5,6,8,30,31,32],body:=(.seq (.reg [w 2 (.bx v0 2),w 3 (.al [.nil,.nil] []),w 4 (.mv (.i 0))] []) (.seq (.blk 0 (.ite [h 2 v2,u (.ca N.eG 0 [] [.l 0]),u (.un .not l0),m l0] [] 0 (.seq (.reg [u (.bd [.nil,.nil] []),u (.st v3 l0 2 []),w 4 (.mv (.i 6))] []) .ret) (.ite [m v1,f 1 v2,g l0,u (.ln l0),u (.bin .sub l0 (.i 1)),u (.ca N.eV 0 [] [.l 4,.i 0,.l 0]),u (.un .not l0),m l0] [] 0 (.seq (.reg [u (.bd [.nil,.nil] []),u (.st v3 l0 2 []),w 4 (.mv (.i 4))] []) .ret) .skip))) (.seq (.reg [w 5 (.al [.nil,.nil] []),f 0 v2,g l0,u (.ca N.aH 0 [] [.l 0]),f 1 v2,g l0,u (.ca N.aL 1 [] [.l 0]),u (.bd [.nil,.nil] [(0,1,.l 3),(1,1,.l 0)]),u (.st l7 l0 2 [])] [(0,4),(0,7),(5,1)]) (.seq (.seq (.reg [w 7 (.mv v1),w 8 (.ln l0),w 9 (.mv (.i 0))] []) (.blk 1 K.vk)) (.seq (.reg [h 2 v5,u (.st v3 l0 2 []),w 4 (.mv (.i 0))] []) .ret))))),res:=[(3,some (2,true)),(4,none)]}
def gz:Fn:={ nargs:=3,vars:=[0,1,2,3,4,5,6],body:=(.seq (.reg [w 3 (.bx v0 1),w 4 (.bx v1 1),w 5 (.bx v2 1),w 6 (.mv (.c (.nil)))] []) (.seq (.ite [f 0 v3,g l0,u (.ln l0),u (.bin .eql l0 (.i 0))] [] 0 (.seq (.reg [w 6 (.mv (.c (.nil)))] []) .ret) .skip) (.seq (.reg [f 0 v3,g l0,a 2 l0 (.i 0),f 1 l0,g l0,u (.ln l0),u (.mf N.dt [.v 3,.v 5,.v 4]),u (.ca N.bZ 0 [] [.l 1,.l 0]),w 6 (.mv l0)] []) .ret))),res:=[(6,none)]}
def m6:Fn:={ nargs:=0,vars:=[0,1,2,3],body:=(.seq (.reg [w 0 (.al [.nil,.nil] [])] []) (.seq (.reg [u (.bd [.t (.int .i64 (0)),.t (.int .i64 (0))] [(0,1,.i 1),(1,1,.i 1)]),u (.bd [.t (.int .i64 (0)),.t (.int .i64 (0)),.t (.int .i64 (0)),.t (.int .i64 (0)),.t (.bool false),.t (.bool false),.t (.int .i64 (0)),.t (.int .i64 (0)),.t (.int .i64 (0)),.t (.int .i64 (0))] [(2,1,.i 12),(3,1,.i 1),(4,1,.b true),(6,2,.l 0)]),w 1 (.al [.t (.int .i64 (0)),.t (.int .i64 (0)),.t (.int .i64 (0)),.t (.int .i64 (0)),.t (.bool false),.t (.bool false),.t (.int .i64 (0)),.t (.int .i64 (0)),.t (.int .i64 (0)),.t (.int .i64 (0))] []),u (.st l0 l1 10 [])] []) (.seq (.reg [w 2 (.al [.t (.int .i64 (0)),.t (.int .i64 (0)),.t (.int .i64 (0)),.t (.int .i64 (0)),.t (.bool false),.t (.bool false),.t (.int .i64 (0)),.t (.int .i64 (0)),.t (.int .i64 (0)),.t (.int .i64 (0))] []),w 3 (.al [.t (.int .i64 (0)),.t (.int .i64 (0)),.t (.int .i64 (0)),.t (.int .i64 (0)),.t (.bool false),.t (.bool false),.t (.int .i64 (0)),.t (.int .i64 (0)),.t (.int .i64 (0)),.t (.int .i64 (0))] []),h 10 v1,h 10 v1,u (.st l3 l1 10 []),u (.st l3 l1 10 [])] [(3,5)]) (.seq (.reg [f 1 v2,u (.st l0 (.i 1) 1 []),f 0 v3,u (.st l0 (.i 1) 1 []),f 1 v3,u (.st l0 (.i 2) 1 [])] []) (.seq (.reg [u (.bd [.t (.int .i64 (0)),.t (.bool false)] [(1,1,.b true)]),u (.bd [.t (.int .i64 (0)),.t (.bool false)] []),u (.bd [.t (.int .i64 (0)),.t (.bool false)] []),u (.bs [.l 2,.l 1,.l 0] 2),h 10 v2,h 10 v3,u (.bs [.l 1,.l 0] 10),u (.bd [.nil,.nil] [(0,1,.l 3),(1,1,.l 0)]),u (.st v0 l0 2 [])] []) .ret))))),res:=[(0,some (2,true))]}
def eZ:Fn:={ nargs:=3,vars:=[0,1,2,4],body:=(.seq (.reg [w 3 (.mv (.b false))] []) (.seq (.reg [g v1,m v0,a 1 l1 l0,g l0,u (.bin .lss l0 (.i 1099511627776)),m l0,y 0 true (.ld v1 1 false),y 1 true (.mv v0),y 2 true (.ia l1 l0 1),y 3 true (.ld l0 1 false),y 4 true (.ld v2 1 false),y 5 true (.bin .leq l1 l0),u (.pk l6 l0 (.b false)),w 3 (.mv l0)] []) .ret)),res:=[(3,none)]}
def fD:Fn:={ nargs:=2,vars:=[0,1,2,3],body:=(.seq (.reg [w 2 (.bx v0 2),w 3 (.mv (.b false))] []) (.seq (.reg [f 1 v2,g l0,u (.mf N.cQ [.v 1]),u (.ca N.af 0 [] [.l 1,.l 0]),w 3 (.mv l0)] []) .ret)),res:=[(3,none)]}
def cQ:Fn:={ nargs:=2,vars:=[0,1,2,3],body:=(.seq (.reg [w 2 (.bx v0 2),w 3 (.mv (.b false))] []) (.seq (.reg [g v1,f 0 v2,g l0,u (.bin .lss l2 l0),w 3 (.mv l0)] []) .ret)),res:=[(3,none)]}
def rN:C:=(.its [u (.bin .lss v11 v10)] [] 0 .skip (.exit 0) (.seq (.blk 1 (.seq (.reg [a 1 v9 v11,g l0,w 8 (.mv l0)] []) (.reg [m v7,m v8,f 1 v4,g l0,m v8,a 1 l1 l0,g l0,a 1 l6 l5,u (.st l0 l1 1 [])] []))) (.reg [u (.bin .add v11 (.i 1)),w 11 (.mv l0)] [])))
def zq:C:= .loop true [0,1,6,8] K.rN
def kf:Fn:={ nargs:=3,vars:=[0,1,2,3,4,6,7,8,10,18,19,20],body:=(.seq (.reg [w 3 (.bx v0 2),w 4 (.bx v1 2),w 5 (.al [.t (.int .i64 (0)),.nil] []),w 6 (.mv (.i 0))] []) (.seq (.reg [u (.bs [.i 1099511627776] 1),f 1 v4,g l0,u (.ln l0),u (.ca N.aZ 1 [] [.l 3,.l 0]),w 7 (.mv l0)] []) (.seq (.seq (.reg [h 2 v4,m v2,w 9 (.ca N.dh 0 [] [.l 1,.l 0]),w 10 (.ln l0),w 11 (.mv (.i 0))] []) (.blk 0 K.zq)) (.seq (.reg [h 2 v3,f 0 v4,g l0,m v7,u (.bd [.t (.int .i64 (0)),.nil] [(0,1,.l 1),(1,1,.l 0)]),m v2,u (.ca N.dG 0 [] [.l 5,.l 1,.l 0]),u (.ex l0 0),u (.ex l1 1),u (.st v5 l1 2 []),w 6 (.mv l1)] []) .ret)))),res:=[(5,some (2,true)),(6,none)]}
def tP:C:=(.seq (.ite [m v7,f 0 v3,g l0,u (.ln l0),u (.bin .lss l3 l0)] [] 0 .skip (.exit 1)) (.seq (.blk 2 (.reg [m v6,u (.bs [.i 1099511627776] 1),u (.app l1 l0 true 1),w 6 (.mv l0)] [])) (.reg [m v7,u (.bin .add l0 (.i 1)),w 7 (.mv l0)] [])))
def A5:C:= .loop true [0,4,5,8,9,10,11,12] K.tP
def jJ:C:=(.seq (.ite [m v9,f 1 v3,g l0,u (.ln l0),u (.bin .lss l3 l0)] [] 0 .skip (.exit 5)) (.seq (.blk 6 (.seq (.reg [f 1 v3,g l0,m v9,a 10 l1 l0,h 10 l0,w 10 (.al [.t (.int .i64 (0)),.t (.int .i64 (0)),.t (.int .i64 (0)),.t (.int .i64 (0)),.t (.bool false),.t (.bool false),.t (.int .i64 (0)),.t (.int .i64 (0)),.t (.int .i64 (0)),.t (.int .i64 (0))] []),u (.st l0 l1 10 [])] []) (.seq (.ite [f 5 v10,g l0] [] 0 (.exit 6) .skip) (.seq (.ite [m v6,f 0 v10,g l0,a 1 l2 l0,g l0,f 2 v10,g l0,u (.bin .add l2 l0),m v6,f 1 v10,g l0,a 1 l2 l0,g l0,u (.bin .lss l5 l0)] [] 0 (.reg [m v6,f 1 v10,g l0,m v6,f 0 v10,g l0,a 1 l2 l0,g l0,f 2 v10,g l0,u (.bin .add l2 l0),a 1 l10 l8,u (.st l0 l1 1 []),w 8 (.mv (.b true))] []) .skip) (.ite [m v6,f 1 v10,g l0,a 1 l2 l0,g l0,f 2 v10,g l0,u (.bin .add l2 l0),m v6,f 0 v10,g l0,a 1 l2 l0,g l0,u (.bin .lss l5 l0)] [] 0 (.reg [m v6,f 0 v10,g l0,m v6,f 1 v10,g l0,a 1 l2 l0,g l0,f 2 v10,g l0,u (.bin .add l2 l0),a 1 l10 l8,u (.st l0 l1 1 []),w 8 (.mv (.b true))] []) .skip))))) (.reg [m v9,u (.bin .add l0 (.i 1)),w 9 (.mv l0)] [])))
def A6:C:= .loop true [0,1,4,5,7,10,11,12] K.jJ
def pt:C:=(.seq (.ite [m v8] [] 0 .skip (.exit 3)) (.blk 4 (.seq (.reg [w 8 (.mv (.b false))] []) (.seq (.reg [w 9 (.mv (.i 0))] []) (.blk 5 K.A6)))))
def A7:C:= .loop true [0,1,4,5,7,9,10,11,12] K.pt
def kU:C:=(.seq (.ite [m v12,m v6,u (.ln l0),u (.bin .lss l2 l0)] [] 0 .skip (.exit 7)) (.seq (.blk 8 (.ite [m v6,m v12,a 1 l1 l0,g l0,u (.bin .lss l0 (.i 1099511627776)),m l0,y 0 true (.mv v6),y 1 true (.mv v12),y 2 true (.ia l1 l0 1),y 3 true (.ld l0 1 false),y 4 true (.mv v2),y 5 true (.bin .leq l1 l0),u (.pk l6 l0 (.b false))] [] 0 (.reg [m v11,m v12,u (.bs [.l 0] 1),u (.app l2 l0 true 1),w 11 (.mv l0)] []) .skip)) (.reg [m v12,u (.bin .add l0 (.i 1)),w 12 (.mv l0)] [])))
def A8:C:= .loop true [0,1,3,4,5,7,8,9,10] K.kU
def lT:Fn:={ nargs:=3,vars:=[0,1,2,3,6,7,8,9,10,11,12,13,14],body:=(.seq (.reg [w 3 (.bx v0 2),w 4 (.mv (.c (.nil))),w 5 (.mv (.i 0))] []) (.seq (.blk 0 (.ite [h 2 v3,u (.ca N.cX 0 [] [.l 0]),u (.bin .neq l0 (.i 0)),m l0] [] 0 (.seq (.reg [w 4 (.mv (.c (.nil))),w 5 (.mv (.i 6))] []) .ret) (.ite [m v1,u (.bin .lss l0 (.i 0)),m l0,y 0 false (.mv v1),y 1 false (.fa v3 0),y 2 false (.ld l0 1 false),y 3 false (.ln l0),y 4 false (.bin .geq l3 l0),u (.pk l5 (.b true) l0),m l0] [] 0 (.seq (.reg [w 4 (.mv (.c (.nil))),w 5 (.mv (.i 3))] []) .ret) (.ite [m v2,u (.bin .lss l0 (.i 0)),m l0] [] 0 (.seq (.reg [w 4 (.mv (.c (.nil))),w 5 (.mv (.i 1))] []) .ret) .skip)))) (.seq (.reg [w 6 (.nw 1)] []) (.seq (.seq (.reg [w 7 (.mv (.i 0))] []) (.blk 1 K.A5)) (.seq (.reg [m v6,m v1,a 1 l1 l0,u (.st l0 (.i 0) 1 [])] []) (.seq (.seq (.reg [w 8 (.mv (.b true))] []) (.blk 3 K.A7)) (.seq (.reg [w 11 (.nw 1)] []) (.seq (.seq (.reg [w 12 (.mv (.i 0))] []) (.blk 7 K.A8)) (.seq (.reg [m v11,w 4 (.mv l0),w 5 (.mv (.i 0))] []) .ret))))))))),res:=[(4,none),(5,none)]}
end Go.Ev.K
namespace Go.Ev
class iJ [Lib]:Prop where
 nI:Lib.fs N.bV=some K.bV
 xE:Lib.fs N.gv=some K.gv
 xF:Lib.fs N.lQ=some K.lQ
 we:Lib.fs N.gw=some K.gw
 rO:Lib.fs N.dW=some K.dW
 rP:Lib.fs N.gy=some K.gy
 rQ:Lib.fs N.fC=some K.fC
 rR:Lib.fs N.gz=some K.gz
 A9:Lib.fs N.m6=some K.m6
 wg:Lib.fs N.eZ=some K.eZ
 rS:Lib.fs N.fD=some K.fD
 oM:Lib.fs N.cQ=some K.cQ
 wm:Lib.fs N.kf=some K.kf
 yF:Lib.fs N.lT=some K.lT
namespace K
variable [Lib] [iJ]
theorem nI:Lib.fs N.bV=some K.bV:=iJ.nI
theorem xE:Lib.fs N.gv=some K.gv:=iJ.xE
theorem xF:Lib.fs N.lQ=some K.lQ:=iJ.xF
theorem we:Lib.fs N.gw=some K.gw:=iJ.we
theorem rO:Lib.fs N.dW=some K.dW:=iJ.rO
theorem rP:Lib.fs N.gy=some K.gy:=iJ.rP
theorem rQ:Lib.fs N.fC=some K.fC:=iJ.rQ
theorem rR:Lib.fs N.gz=some K.gz:=iJ.rR
theorem A9:Lib.fs N.m6=some K.m6:=iJ.A9
theorem wg:Lib.fs N.eZ=some K.eZ:=iJ.wg
theorem rS:Lib.fs N.fD=some K.fD:=iJ.rS
theorem oM:Lib.fs N.cQ=some K.cQ:=iJ.oM
theorem wm:Lib.fs N.kf=some K.kf:=iJ.wm
theorem yF:Lib.fs N.lT=some K.lT:=iJ.yF
end K
end Go.Ev
namespace Go.Ev.K
open Go.Ev
def lU:C:=(.seq (.ite [m v5,f 0 v2,g l0,u (.ln l0),u (.bin .lss l3 l0)] [] 0 .skip (.exit 0)) (.seq (.blk 1 (.ite [f 0 v2,g l0,m v5,a 2 l1 l0,h 2 l0,f 0 v3,g l0,m v5,a 2 l1 l0,h 2 l0,u (.eqk (.sc [true,false]) true l5 l0)] [] 0 (.seq (.reg [w 4 (.mv (.b false))] []) .ret) .skip)) (.reg [m v5,u (.bin .add l0 (.i 1)),w 5 (.mv l0)] [])))
def qw:C:= .loop true [0,1,4,6] K.lU
def lV:C:=(.seq (.ite [m v6,f 1 v2,g l0,u (.ln l0),u (.bin .lss l3 l0)] [] 0 .skip (.exit 2)) (.seq (.blk 3 (.ite [f 1 v2,g l0,m v6,a 10 l1 l0,h 10 l0,f 1 v3,g l0,m v6,a 10 l1 l0,h 10 l0,u (.eqk (.sc [true,true,true,true,false,false,true,true,true,true]) true l5 l0)] [] 0 (.seq (.reg [w 4 (.mv (.b false))] []) .ret) .skip)) (.reg [m v6,u (.bin .add l0 (.i 1)),w 6 (.mv l0)] [])))
def qx:C:= .loop true [0,1,4,5] K.lV
def dO:Fn:={ nargs:=2,vars:=[0,1,2,3,4,5,6],body:=(.seq (.reg [w 2 (.bx v0 2),w 3 (.bx v1 2),w 4 (.mv (.b false))] []) (.seq (.ite [f 0 v2,g l0,u (.ln l0),f 0 v3,g l0,u (.ln l0),u (.bin .neq l3 l0),m l0,y 0 false (.fa v2 1),y 1 false (.ld l0 1 false),y 2 false (.ln l0),y 3 false (.fa v3 1),y 4 false (.ld l0 1 false),y 5 false (.ln l0),y 6 false (.bin .neq l3 l0),u (.pk l7 (.b true) l0)] [] 0 (.seq (.reg [w 4 (.mv (.b false))] []) .ret) .skip) (.seq (.seq (.reg [w 5 (.mv (.i 0))] []) (.blk 0 K.qw)) (.seq (.seq (.reg [w 6 (.mv (.i 0))] []) (.blk 2 K.qx)) (.seq (.reg [w 4 (.mv (.b true))] []) .ret))))),res:=[(4,none)]}
def kx:C:=(.seq (.ite [m v8,m v7,u (.ln l0),u (.bin .lss l2 l0)] [] 0 .skip (.exit 2)) (.seq (.blk 3 (.ite [m v1,m v7,m v8,a 1 l1 l0,g l0,u (.ca N.fH 0 [] [.l 4,.l 0])] [] 0 (.seq (.reg [m v5,m v6,u (.bs [.l 0] 1),u (.app l2 l0 true 1),w 5 (.mv l0)] []) (.exit 2)) .skip)) (.reg [m v8,u (.bin .add l0 (.i 1)),w 8 (.mv l0)] [])))
def tQ:C:= .loop true [0,4] K.kx
def ky:C:=(.seq (.ite [m v6,f 0 v3,g l0,a 2 l0 (.i 0),f 1 l0,g l0,u (.ln l0),u (.bin .lss l6 l0)] [] 0 .skip (.exit 0)) (.seq (.blk 1 (.seq (.reg [h 1 v3,m v6,m v2,u (.ca N.dK 0 [] [.l 2,.l 1,.l 0]),w 7 (.mv l0)] []) (.seq (.reg [w 8 (.mv (.i 0))] []) (.blk 2 K.tQ)))) (.reg [m v6,u (.bin .add l0 (.i 1)),w 6 (.mv l0)] [])))
def tR:C:= .loop true [0,4,7,8] K.ky
def fe:Fn:={ nargs:=3,vars:=[0,1,2,3,6,7,8,9,10],body:=(.seq (.reg [w 3 (.bx v0 1),w 4 (.mv (.c (.nil)))] []) (.seq (.reg [w 5 (.nw 1)] []) (.seq (.ite [f 0 v3,g l0,u (.ln l0),u (.bin .eql l0 (.i 0))] [] 0 (.seq (.reg [w 4 (.mv (.c (.nil)))] []) .ret) .skip) (.seq (.seq (.reg [w 6 (.mv (.i 0))] []) (.blk 0 K.tR)) (.seq (.reg [m v5,w 4 (.mv l0)] []) .ret))))),res:=[(4,none)]}
def cR:Fn:={ nargs:=3,vars:=[0,1,2,4,5],body:=(.seq (.reg [w 3 (.mv (.b false))] []) (.seq (.reg [f 1 v1,g l0,m v0,a 10 l1 l0,h 10 l0,w 4 (.al [.t (.int .i64 (0)),.t (.int .i64 (0)),.t (.int .i64 (0)),.t (.int .i64 (0)),.t (.bool false),.t (.bool false),.t (.int .i64 (0)),.t (.int .i64 (0)),.t (.int .i64 (0)),.t (.int .i64 (0))] []),u (.st l0 l1 10 [])] []) (.seq (.reg [g v2,f 0 v4,g l0,u (.ca N.aO 0 [] [.l 2,.l 0]),g v2,f 1 v4,g l0,u (.ca N.aO 0 [] [.l 2,.l 0]),u (.eqk (.bool) true l4 l0),m l0,y 0 true (.ld v1 2 true),y 1 true (.mv v0),y 2 true (.ca N.iZ 0 [] [.l 1,.l 0,.b false]),y 3 true (.bin .geq l0 (.i 0)),y 4 true (.mv l0),y 0 false (.ld v1 2 true),y 1 false (.mv v0),y 2 false (.ca N.iZ 0 [] [.l 1,.l 0,.b true]),y 3 false (.bin .geq l0 (.i 0)),y 9 true (.pk l4 (.b true) l0),u (.pk l10 l0 (.b false)),w 3 (.mv l0)] [(4,0),(6,0)]) .ret))),res:=[(3,none)]}
def aH:Fn:={ nargs:=1,vars:=[0,2],body:=(.seq (.reg [w 1 (.mv (.c (.nil)))] []) (.itk [m v0,u (.eqk (.sl) false l0 (.c (.nil)))] [] 0 (.seq (.reg [w 1 (.nw 2)] []) .ret) .skip (.seq (.reg [u (.bsr [] 2),m v0,u (.app l1 l0 false 2),w 1 (.mv l0)] []) .ret))),res:=[(1,none)]}
def aL:Fn:={ nargs:=1,vars:=[0,2],body:=(.seq (.reg [w 1 (.mv (.c (.nil)))] []) (.itk [m v0,u (.eqk (.sl) false l0 (.c (.nil)))] [] 0 (.seq (.reg [w 1 (.nw 10)] []) .ret) .skip (.seq (.reg [u (.bsr [] 10),m v0,u (.app l1 l0 false 10),w 1 (.mv l0)] []) .ret))),res:=[(1,none)]}
def dt:Fn:={ nargs:=4,vars:=[0,1,2,3,5],body:=(.seq (.reg [w 4 (.mv (.b false))] []) (.seq (.reg [h 1 v1,m v0,g v2,u (.ca N.dM 0 [] [.l 2,.l 1,.l 0]),u (.mf N.cy [.v 3]),u (.ca N.az 0 [] [.l 1,.l 0]),w 4 (.mv l0)] []) .ret)),res:=[(4,none)]}
def cy:Fn:={ nargs:=2,vars:=[0,1,3],body:=(.seq (.reg [w 2 (.mv (.b false))] []) (.seq (.reg [g v1,m v0,u (.ca N.aO 0 [] [.l 1,.l 0]),w 2 (.mv l0)] []) .ret)),res:=[(2,none)]}
end Go.Ev.K
namespace Go.Ev
class j4 [Lib]:Prop where
 nJ:Lib.fs N.dO=some K.dO
 p4:Lib.fs N.fe=some K.fe
 oN:Lib.fs N.cR=some K.cR
 dI:Lib.fs N.aH=some K.aH
 eo:Lib.fs N.aL=some K.aL
 oO:Lib.fs N.dt=some K.dt
 mK:Lib.fs N.cy=some K.cy
namespace K
variable [Lib] [j4]
theorem nJ:Lib.fs N.dO=some K.dO:=j4.nJ
theorem p4:Lib.fs N.fe=some K.fe:=j4.p4
theorem oN:Lib.fs N.cR=some K.cR:=j4.oN
theorem dI:Lib.fs N.aH=some K.aH:=j4.dI
theorem eo:Lib.fs N.aL=some K.aL:=j4.eo
theorem oO:Lib.fs N.dt=some K.dt:=j4.oO
theorem mK:Lib.fs N.cy=some K.cy:=j4.mK
end K
end Go.Ev
namespace Go.Ev
open Go
variable [Lib] [bW] [bL] [fJ] [eY] [fM] [fN] [iI] [gu] [iJ] [j4]
abbrev iT(l:List Int):Obj:= .arr 1 false 0 ((l.map (T.int .i64)).map .t)
def ofP(l:List Int)(r:Int)(q:Nat):Bool:=decide (nth l q<1099511627776)&&decide (nth l q≤r)
abbrev ofH(l:List Int)(r:Int):ai:=[.box [.ref 2 0 l.length],.box [I r],iT l]
theorem acd(l:List Int)(r:Int)(k:Nat)(hk:k<l.length):aE 0 N.eZ [I k,.bp 0 0,.bp 1 0] (ofH l r)=some (B (ofP l r k),ofH l r):=by
 refine ak K.wg rfl ?_
 unfold ofP
 by_cases c1:nth l k<1099511627776<;>by_cases c2:nth l k≤r
 · simp(disch:=omega)only[go_sem,K.eZ,↓reduceIte,c1,c2,decide_true,Bool.and_self,Nat.reduceAdd,Nat.reduceSub]
 · simp(disch:=omega)only[go_sem,K.eZ,↓reduceIte,c1,c2,decide_true,decide_false,Bool.and_false,Nat.reduceAdd,Nat.reduceSub]
 · simp(disch:=omega)only[go_sem,K.eZ,↓reduceIte,c1,c2,decide_true,decide_false,Bool.false_and,Nat.reduceAdd,Nat.reduceSub]
 · simp(disch:=omega)only[go_sem,K.eZ,↓reduceIte,c1,c2,decide_true,decide_false,Bool.and_self,Nat.reduceAdd,Nat.reduceSub]
theorem ace(l:List Int)(hl:l.length≤64)(r:Int):aE 0 N.bZ [I l.length,.fn N.eZ [.bp 0 0,.bp 1 0]] (ofH l r)=some (.t (tL (bz l.length (ofP l r))),ofH l r):=by
 refine ak K.nY rfl ?_
 have hlen:=fun k=>dY k (ofP l r)
 have loop:∀z2 z4:D,exS aE K.pL ⟨[I l.length,.fn N.eZ [.bp 0 0,.bp 1 0],z2,.ref 3 0 0,z4,I l.length,I 0],ofH l r++[.arr 1 false 0 []]⟩=
  some (.exit 0,⟨[.und,.fn N.eZ [.bp 0 0,.bp 1 0],.und,.ref 3 0 (bz l.length (ofP l r)).length,.und,I l.length,I l.length],ofH l r++[iT (bz l.length (ofP l r))]⟩):=by
  intro z2 z4
  refine bR (fun j=>⟨[.und,.fn N.eZ [.bp 0 0,.bp 1 0],.und,.ref 3 0 (bz j (ofP l r)).length,.und,I l.length,I j],ofH l r++[iT (bz j (ofP l r))]⟩) l.length rfl ?_ ?_ (by simp)
  · intro j hj
    have hc:=acd l r j hj
    have:=hlen j
    have ws:=iQ j (ofP l r)
    generalize ofP l r j=b at*
    generalize bz j (ofP l r)=out at*
    generalize bz (j+1) (ofP l r)=out2 at*
    cases b with
    | true=>
      simp only[if_true]at ws;subst ws
      simp only[List.cons_append,List.nil_append]
      simp(disch:=omega)only[go_sem,K.gp,↓reduceIte,hc,iT,Nat.reduceAdd,Nat.reduceSub]
    | false=>
      simp only[Bool.false_eq_true,if_false]at ws;subst ws
      simp only[List.cons_append,List.nil_append]
      simp(disch:=omega)only[go_sem,K.gp,↓reduceIte,hc,Nat.reduceAdd,Nat.reduceSub]
  · simp only[List.cons_append,List.nil_append]
    simp(disch:=omega)only[go_sem,K.gp,↓reduceIte,Nat.reduceAdd,Nat.reduceSub]
 have:=hlen l.length
 generalize bz l.length (ofP l r)=out at*
 simp only[List.cons_append,List.nil_append]at loop
 simp(disch:=omega)only[go_sem,K.bZ,↓reduceIte,loop,Nat.reduceAdd,Nat.reduceSub]
theorem wq(l:List Int)(i:Nat)(h:i<l.length):l.set i (nth l i)=l:=rC (by simp) fun j hj=>by rw[ku _ _ h];split<;>simp_all
abbrev aoV(r:Int)(ch:D)(i:D)(n:D)(rs:D):List D:=[.und,.und,.und,.bp 0 0,.bp 1 0,.und,.und,.bp 3 0,ch,.und,.und,rs,n,i]
abbrev aoH(m:aM)(r:Int)(l:List Int):ai:=[.box (aa m),.box [I r],iT l,.box [.ref 2 0 l.length]]
theorem WD{m:aM}(h:m.ok)(r:Int)(l:List Int)(hl:l.length=m.places.length)(hb:bnd l)(k:Nat)(hk:k<m.roads.length)(ch:Bool):
 fG true [0,1,2,5,6,9,10] 4 (exS aE K.kD ⟨aoV r (B ch) (I k) (I m.roads.length) (.t (.sl (m.roads.map Road.e))),aoH m r l⟩)=
 some ⟨aoV r (B (ofR (nth m.roads k) (l,ch)).2) (I (k+1)) (I m.roads.length) (.t (.sl (m.roads.map Road.e))),aoH m r (ofR (nth m.roads k) (l,ch)).1⟩:=by
 have np:=h.np
 have nr:=h.nr
 have ex:(m.roads.map Road.e)[k]?=some (nth m.roads k).e:=bP _ hk
 obtain⟨f0,f1,t0,t1,ne,l0,l1, -⟩:=h.rs _ (ae hk)
 unfold ofR
 simp only
 generalize nth m.roads k=x at*
 obtain⟨frm,to,len,area,walk,closed,rl,rh,ll,lh⟩:=x
 simp only at*
 have b1:=hb _ (ae (l:=l) (j:=frm.toNat) (by omega))
 have b2:=hb _ (ae (l:=l) (j:=to.toNat) (by omega))
 have s1:=wq l frm.toNat (by omega)
 have s2:=wq l to.toNat (by omega)
 obtain⟨places,roads⟩:=m
 simp only[aa,aoV,aoH]at*
 cases closed with
 | true=>
   simp only[if_true]
   simp(disch:=omega)only[go_sem,K.kD,↓reduceIte,ex,Nat.reduceAdd,Nat.reduceSub]
 | false=>
   simp only[Bool.false_eq_true,if_false]
   by_cases c:nth l frm.toNat+len<nth l to.toNat
   · rw[if_pos c]
     have m1:min (nth l frm.toNat) (nth l to.toNat)=nth l frm.toNat:=by omega
     have m2:max (nth l frm.toNat) (nth l to.toNat)=nth l to.toNat:=by omega
     have m3:min (nth l frm.toNat) (nth l frm.toNat+len)=nth l frm.toNat:=by omega
     have m4:min (nth l to.toNat) (nth l frm.toNat+len)=nth l frm.toNat+len:=by omega
     simp(disch:=omega)only[go_sem,K.kD,↓reduceIte,ex,c,m1,m2,m3,m4,s1,List.length_set,Nat.reduceAdd,Nat.reduceSub]
   · rw[if_neg c]
     by_cases c2:nth l to.toNat+len<nth l frm.toNat
     · rw[if_pos c2]
       have m1:min (nth l frm.toNat) (nth l to.toNat)=nth l to.toNat:=by omega
       have m2:max (nth l frm.toNat) (nth l to.toNat)=nth l frm.toNat:=by omega
       have m3:min (nth l frm.toNat) (nth l to.toNat+len)=nth l to.toNat+len:=by omega
       have m4:min (nth l to.toNat) (nth l to.toNat+len)=nth l to.toNat:=by omega
       have g1:nth (l.set frm.toNat (nth l to.toNat+len)) to.toNat=nth l to.toNat:=by rw[ku _ _ (by omega),if_neg (by omega)]
       have g2:(((l.set frm.toNat (nth l to.toNat+len)).map (T.int .i64)).map D.t)[to.toNat]?=some (D.t (T.int .i64 (nth l to.toNat))):=by rw[lH _ _ (by rw[List.length_set];omega),g1]
       have g3:=wq (l.set frm.toNat (nth l to.toNat+len)) to.toNat (by rw[List.length_set];omega)
       rw[g1]at g3
       simp(disch:=omega)only[go_sem,K.kD,↓reduceIte,ex,c2,m1,m2,m3,m4,g2,g3,List.length_set,Nat.reduceAdd,Nat.reduceSub]
     · rw[if_neg c2]
       have c3:¬(min (nth l frm.toNat) (nth l to.toNat)+len<max (nth l frm.toNat) (nth l to.toNat)):=by omega
       simp(disch:=omega)only[go_sem,K.kD,↓reduceIte,ex,c3,Nat.reduceAdd,Nat.reduceSub]
theorem ag6{m:aM}(h:m.ok){p:Nat}(r:Int){l:List Int}(hi:OfI m p l):∀z0 z1 z2 z5 z6 z9 z10:D,
 exS aE K.CI ⟨[z0,z1,z2,.bp 0 0,.bp 1 0,z5,z6,.bp 3 0,B false,z9,z10,.t (.sl (m.roads.map Road.e)),I m.roads.length,I 0],aoH m r l⟩=
 some (.exit 3,⟨aoV r (B (ofG m l).2) (I m.roads.length) (I m.roads.length) (.t (.sl (m.roads.map Road.e))),aoH m r (ofG m l).1⟩):=by
 intro z0 z1 z2 z5 z6 z9 z10
 refine bR (fun k=>⟨aoV r (B (ofN m l k).2) (I k) (I m.roads.length) (.t (.sl (m.roads.map Road.e))),aoH m r (ofN m l k).1⟩) m.roads.length rfl ?_ ?_ (by simp)
 · intro k hk
   obtain⟨i1, -⟩:=ve h hi k (by omega)
   exact WD h r (ofN m l k).1 i1.ln i1.bd k hk (ofN m l k).2
 · have nr:=h.nr
   unfold ofG
   generalize ofN m l m.roads.length=q
   obtain⟨l',b⟩:=q
   obtain⟨places,roads⟩:=m
   simp only[aa,aoV,aoH]
   simp(disch:=omega)only[go_sem,K.kD,↓reduceIte,Nat.reduceAdd,Nat.reduceSub]
theorem K1{m:aM}(h:m.ok){p:Nat}(hp:p<m.places.length)(r:Int)(hr:0≤r):aE 0 N.lQ [.t m.e,I p,I r] []=some (.tup [.t (tL (ofL m p r)),I 0],[]):=by
 refine ak K.xF rfl ?_
 have np:=h.np
 have pv:=jH h
 have li:=FM p 0 ((m.places.length:Int)-1)
 rw[show decide ((0:Int)≤p∧(p:Int)≤(m.places.length:Int)-1)=true by rw[decide_eq_true_eq];omega]at li
 have rp:aE 1 N.aZ [.t (.sl [.int .i64 1099511627776]),I m.places.length] []=_:=FT 1099511627776 m.places.length (by omega) (by omega)
 have fi:=abL h hp
 have lp:=fun z0 z1 z2 z5 z6 z9 z10 z11 z12 z13:D=>yr (gc:=true) (dead:=[0,1,2,5,6,9,10,11,12,13]) (c:=K.rL) (vs:=[z0,z1,z2,.bp 0 0,.bp 1 0,z5,z6,.bp 3 0,B true,z9,z10,z11,z12,z13]) (H:=aoH m r (ofB m p))
  (fun l ch=>⟨[.und,.und,.und,.bp 0 0,.bp 1 0,.und,.und,.bp 3 0,B ch,.und,.und,.und,.und,.und],aoH m r l⟩)
  (fun l=>(.exit 1,⟨[.und,.und,.und,.bp 0 0,.bp 1 0,.und,.und,.bp 3 0,B false,.und,.und,.und,.und,.und],aoH m r l⟩))
  (ofG m) (OfI m p) vd (fun l hl=>⟨(ve h hl _ (Nat.le_refl _)).1,(ve h hl _ (Nat.le_refl _)).2.1⟩)
  (by
   intro l hl
   have:=ag6 h r hl
   have ln:=(ve h hl _ (Nat.le_refl _)).1.ln
   have ln0:=hl.ln
   unfold ofG at*
   generalize ofN m l m.roads.length=q at*
   obtain⟨l',b⟩:=q
   obtain⟨places,roads⟩:=m
   simp only[aa,aoV,aoH]at*
   simp(disch:=omega)only[go_sem,K.rL,↓reduceIte,this,Nat.reduceAdd,Nat.reduceSub]
   )
  (by
   intro l hl
   obtain⟨places,roads⟩:=m
   simp only[aa,aoH]
   simp(disch:=omega)only[go_sem,K.rL,↓reduceIte,reduceCtorEq,ne_eq,not_false_eq_true,and_self,Nat.reduceAdd,Nat.reduceSub]
   )
  (ofB m p) (VB hp) rfl
 have o1:∀z0 z1 z2 z5 z6 z9 z10 z11 z12 z13:D,exS aE K.CJ ⟨[z0,z1,z2,.bp 0 0,.bp 1 0,z5,z6,.bp 3 0,B true,z9,z10,z11,z12,z13],aoH m r (ofB m p)⟩=_:=fun z0 z1 z2 z5 z6 z9 z10 z11 z12 z13=>(lp z0 z1 z2 z5 z6 z9 z10 z11 z12 z13).1
 clear lp
 have wh:=ace (ofD m p) (by rw[fi.2.ln];exact np) r
 rw[fi.2.ln]at wh
 rw[show List.replicate m.places.length (I 1099511627776)=(((dS m.places.length).map (T.int .i64)).map .t)by simp[dS]]at rp
 have dl:=fi.2.ln
 have nl:=iC m.places.length
 have e:ofL m p r=bz m.places.length (ofP (ofD m p) r):=rfl
 rw[e]
 clear e fi
 have wl:=dY m.places.length (ofP (ofD m p) r)
 unfold ofD ofB at*
 generalize iK (ofG m) (vd ((dS m.places.length).set p 0)+1) ((dS m.places.length).set p 0)=F at*
 generalize bz m.places.length (ofP F r)=out at*
 generalize dS m.places.length=ne at*
 obtain⟨places,roads⟩:=m
 simp only[aa,aoH]at*
 simp only[ofH,iT,List.length_set,nl,dl]at o1 wh
 simp(disch:=omega)only[go_sem,K.lQ,↓reduceIte,pv,li,rp,o1,wh,Bool.not_true,List.length_set,Nat.reduceAdd,Nat.reduceSub]
end Go.Ev
namespace Go.Ev
open Go
variable [Lib] [bW] [bL]
@[go_sem] theorem WE (l : List Place) : vH 2 (l.map Place.e) = true := by cases l <;> rfl
@[go_sem] theorem Zs (l : List Road) : vH 10 (l.map Road.e) = true := by cases l <;> rfl
@[go_sem] theorem Zt (H : ai) (d : aD) : Qy H 0 1 false (some d.obj) = some (.t (tL d.L), H) := by simp only [aD.obj, go_sem]
def aD.ff(d:aD):Nat→List Place×aD
 | 0=>([],d)
 | k+1=>if k=0 then((d.ff k).1++[⟨-10*((d.ff k).2.next 4).1,true⟩],((d.ff k).2.next 4).2)
   else((d.ff k).1++[⟨-10*((d.ff k).2.next 4).1,(((d.ff k).2.next 4).2.one 6).1⟩],(((d.ff k).2.next 4).2.one 6).2)
def aD.K3(d:aD)(i:Int):Road×aD:=
 (⟨i-1-(d.next (min i 2)).1,i,1+((d.next (min i 2)).2.of [11,59,119,4]).1,1+(((d.next (min i 2)).2.of [11,59,119,4]).2.of [9,3,19]).1,true,false,1,1,0,0⟩,
   (((d.next (min i 2)).2.of [11,59,119,4]).2.of [9,3,19]).2)
def aD.lW(d:aD):Nat→List Road×aD
 | 0=>([],d)
 | k+1=>((d.lW k).1++[((d.lW k).2.K3 (k+1)).1],((d.lW k).2.K3 (k+1)).2)
def aD.rT(d:aD)(n:Int):Road×aD:=
 let a:=d.next n
 let b:=a.2.next n
 let l:=b.2.of [11,59,199]
 let r:=l.2.of [9,3]
 let w:=r.2.next 5
 let c:=w.2.one 6
 (⟨a.1,b.1,1+l.1,1+r.1,decide (0<w.1),c.1,1,1,0,0⟩,c.2)
def aD.more(n:Int)(l:List Road)(d:aD):Nat→List Road×aD
 | 0=>(l,d)
 | k+1=>if l.length<10 then aD.more n (if(d.rT n).1.frm=(d.rT n).1.to then l else l++[(d.rT n).1]) (d.rT n).2 k else(l,d)
def aD.wu(d:aD):Nat:=if d.L.length=0 then 4 else(2+(d.next 6).1).toNat
def aD.Od(d:aD):List Place×aD:=(d.next 6).2.ff d.wu
def aD.DM(d:aD):List Road×aD:=d.Od.2.lW (d.wu-1)
def aD.Rh(d:aD):List Road×aD:=aD.more d.wu d.DM.1 (d.DM.2.next 4).2 (d.DM.2.next 4).1.toNat
def aD.Ty(d:aD):aM×aD:=(⟨d.Od.1,d.Rh.1⟩,d.Rh.2)
theorem aD.lX{d:aD}(h:d.eD):∀n,(d.ff n).2.eD
 | 0=>h
 | n+1=>by
   unfold aD.ff
   split
   · exact aD.aW (aD.lX h n) 4
   · exact aD.FE (aD.aW (aD.lX h n) 4) 6
theorem aD.rU(d:aD):∀n,(d.ff n).1.length=n
 | 0=>rfl
 | n+1=>by
   unfold aD.ff
   split<;>simp[d.rU n]
theorem aD.Ia{d:aD}(h:d.eD)(i:Int):(d.K3 i).2.eD:=aD.rn (aD.rn (aD.aW h _) _) _
theorem aD.pw{d:aD}(h:d.eD):∀n,(d.lW n).2.eD
 | 0=>h
 | n+1=>aD.Ia (aD.pw h n) _
theorem aD.uw(d:aD):∀n,(d.lW n).1.length=n
 | 0=>rfl
 | n+1=>by simp[aD.lW,d.uw n]
theorem aD.Ba{d:aD}(h:d.eD)(n:Int):(d.rT n).2.eD:=by
 unfold aD.rT;simp only
 exact aD.FE (aD.aW (aD.rn (aD.rn (aD.aW (aD.aW h _) _) _) _) _) _
theorem aD.CK(n:Int):∀(k:Nat) (l:List Road) {d:aD},d.eD→(aD.more n l d k).2.eD
 | 0,l,d,h=>h
 | k+1,l,d,h=>by
   unfold aD.more
   split
   · exact aD.CK n k _ (aD.Ba h n)
   · exact h
theorem aD.K4{d:aD}(h:d.eD):d.Ty.2.eD:=
 aD.CK _ _ _ (aD.aW (aD.pw (aD.lX (aD.aW h _) _) _) _)
abbrev DN:List D:=[I 0,I 0,I 12,I 10,B true,B false,I 1,I 1,I 0,I 0]
theorem K5(d:aD)(hd:d.eD)(n:Nat)(hn:n≤8)(a b c e f:D):
 exS aE K.qj ⟨[.bp 0 0,.bp 1 0,.bp 2 0,I n,I 0,a,b,c,e,f],[d.obj,.box [.nil,.nil],.box [.ref 3 0 0,.ref 4 0 0],.arr 2 false 0 [],.arr 10 false 0 []]⟩=
 some (.exit 0,⟨[.bp 0 0,.bp 1 0,.bp 2 0,I n,I n,.und,.und,.und,.und,.und],[(d.ff n).2.obj,.box [.nil,.nil],.box [.ref 3 0 (d.ff n).1.length,.ref 4 0 0],.arr 2 false 0 (((d.ff n).1.map Place.e).map .t),.arr 10 false 0 []]⟩):=by
 refine bR (fun j=>⟨[.bp 0 0,.bp 1 0,.bp 2 0,I n,I j,.und,.und,.und,.und,.und],[(d.ff j).2.obj,.box [.nil,.nil],.box [.ref 3 0 (d.ff j).1.length,.ref 4 0 0],.arr 2 false 0 (((d.ff j).1.map Place.e).map .t),.arr 10 false 0 []]⟩) n rfl ?_ ?_ (by simp)
 · intro j hj
   have ln:=d.rU j
   have lt:=aD.lX hd j
   simp only[aD.ff]
   generalize d.ff j=s at*
   obtain⟨l,d1⟩:=s
   simp only at ln lt ⊢
   have h1:=gY d1 4 (by omega) lt
   have b1:=d1.ei 4
   have b2:=d1.en (n:=4) (by omega)
   have l1:=aD.aW lt 4
   generalize d1.next 4=a1 at*
   obtain⟨x,d2⟩:=a1
   simp only at h1 b1 b2 l1 ⊢
   by_cases j0:j=0
   · subst j0
     simp(disch:=omega)only[go_sem,K.jt,h1,↓reduceIte,Nat.reduceAdd,Nat.reduceSub]
   · have h2:=SQ d2 6 (by omega) (by omega) l1
     simp(disch:=omega)only[go_sem,K.jt,h1,h2,j0,↓reduceIte,Nat.reduceAdd,Nat.reduceSub]
 · simp(disch:=omega)only[go_sem,K.jt,↓reduceIte]
theorem K6(d:aD)(hd:d.eD)(n:Nat)(hn:n≤8)(h1:1≤n)(ps:List Place)(a b c e:D):
 exS aE K.qk ⟨[.bp 0 0,.bp 1 0,.bp 2 0,I n,a,.bp 5 0,I 1,b,c,e],[d.obj,.box [.nil,.nil],.box [.ref 3 0 ps.length,.ref 4 0 0],.arr 2 false 0 ((ps.map Place.e).map .t),.arr 10 false 0 [],.box DN]⟩=
 some (.exit 2,⟨[.bp 0 0,.bp 1 0,.bp 2 0,I n,.und,.bp 5 0,I n,.und,.und,.und],[(d.lW (n-1)).2.obj,.box [.nil,.nil],.box [.ref 3 0 ps.length,.ref 4 0 (d.lW (n-1)).1.length],.arr 2 false 0 ((ps.map Place.e).map .t),.arr 10 false 0 (((d.lW (n-1)).1.map Road.e).map .t),.box DN]⟩):=by
 refine bR (fun j=>⟨[.bp 0 0,.bp 1 0,.bp 2 0,I n,.und,.bp 5 0,I (j+1),.und,.und,.und],[(d.lW j).2.obj,.box [.nil,.nil],.box [.ref 3 0 ps.length,.ref 4 0 (d.lW j).1.length],.arr 2 false 0 ((ps.map Place.e).map .t),.arr 10 false 0 (((d.lW j).1.map Road.e).map .t),.box DN]⟩) (n-1) rfl ?_ ?_ (by simp)
 · intro j hj
   have ln:=d.uw j
   have lt:=aD.pw hd j
   simp only[aD.lW]
   generalize d.lW j=s at*
   obtain⟨l,d1⟩:=s
   simp only[aD.K3]at ln lt ⊢
   have h1:=gY d1 (min ((j:Int)+1) 2) (by omega) lt
   have b1:=d1.ei (min ((j:Int)+1) 2)
   have b2:=d1.en (n:=min ((j:Int)+1) 2) (by omega)
   have l1:=aD.aW lt (min ((j:Int)+1) 2)
   generalize d1.next (min ((j:Int)+1) 2)=a1 at*
   obtain⟨x,d2⟩:=a1
   simp only at h1 b1 b2 l1 ⊢
   have h2:=QT d2 [11,59,119,4] (by simp) (by simp) l1
   have m2:=d2.zf (l:=[11,59,119,4]) (by simp)
   have l2:=aD.rn l1 [11,59,119,4]
   generalize d2.of [11,59,119,4]=a2 at*
   obtain⟨y,d3⟩:=a2
   simp only[tL,List.map_cons,List.map_nil]at h2 m2 l2 ⊢
   have h3:=QT d3 [9,3,19] (by simp) (by simp) l2
   have m3:=d3.zf (l:=[9,3,19]) (by simp)
   generalize d3.of [9,3,19]=a3 at*
   obtain⟨z,d4⟩:=a3
   simp only[tL,List.map_cons,List.map_nil,List.mem_cons,List.not_mem_nil,or_false]at h3 m2 m3 ⊢
   simp(disch:=omega)only[go_sem,K.lB,h1,h2,h3,↓reduceIte,Nat.reduceAdd,Nat.reduceSub]
 · simp(disch:=omega)only[go_sem,K.lB,↓reduceIte]
   rw[show((n-1:Nat):Int)+1=n by omega]
abbrev F3(d:aD)(ps:List Place)(l:List Road):ai:=[d.obj,.box [.nil,.nil],.box [.ref 3 0 ps.length,.ref 4 0 l.length],.arr 2 false 0 ((ps.map Place.e).map .t),.arr 10 false 0 ((l.map Road.e).map .t),.box DN]
theorem K7(d:aD)(hd:d.eD)(n:Int)(hn:1≤n)(hn2:n≤8)(ps:List Place)(l:List Road)(hl:l.length<10)(k:Nat)(hk:k≤10):
 fG true [4,6,7,9] 6 (exS aE K.dR ⟨[.bp 0 0,.bp 1 0,.bp 2 0,I n,.und,.bp 5 0,.und,.und,I (k+1),.und],F3 d ps l⟩)=
 some ⟨[.bp 0 0,.bp 1 0,.bp 2 0,I n,.und,.bp 5 0,.und,.und,I k,.und],F3 (d.rT n).2 ps (if(d.rT n).1.frm=(d.rT n).1.to then l else l++[(d.rT n).1])⟩:=by
 unfold aD.rT F3
 simp only
 have h1:=gY d n (by omega) hd
 have l1:=aD.aW hd n
 generalize d.next n=a1 at*
 obtain⟨x1,d1⟩:=a1
 simp only at h1 l1 ⊢
 have h2:=gY d1 n (by omega) l1
 have l2:=aD.aW l1 n
 generalize d1.next n=a2 at*
 obtain⟨x2,d2⟩:=a2
 simp only at h2 l2 ⊢
 have h3:=QT d2 [11,59,199] (by simp) (by simp) l2
 have m3:=d2.zf (l:=[11,59,199]) (by simp)
 have l3:=aD.rn l2 [11,59,199]
 generalize d2.of [11,59,199]=a3 at*
 obtain⟨x3,d3⟩:=a3
 simp only[tL,List.map_cons,List.map_nil]at h3 m3 l3 ⊢
 have h4:=QT d3 [9,3] (by simp) (by simp) l3
 have m4:=d3.zf (l:=[9,3]) (by simp)
 have l4:=aD.rn l3 [9,3]
 generalize d3.of [9,3]=a4 at*
 obtain⟨x4,d4⟩:=a4
 simp only[tL,List.map_cons,List.map_nil]at h4 m4 l4 ⊢
 have h5:=gY d4 5 (by omega) l4
 have l5:=aD.aW l4 5
 generalize d4.next 5=a5 at*
 obtain⟨x5,d5⟩:=a5
 simp only at h5 l5 ⊢
 have h6:=SQ d5 6 (by omega) (by omega) l5
 generalize d5.one 6=a6 at*
 obtain⟨x6,d6⟩:=a6
 simp only[List.mem_cons,List.not_mem_nil,or_false]at h6 m3 m4 ⊢
 by_cases e:x1=x2
 · simp(disch:=omega)only[go_sem,K.dR,h1,h2,h3,h4,h5,h6,e,↓reduceIte,Nat.reduceAdd,Nat.reduceSub]
 · simp(disch:=omega)only[go_sem,K.dR,h1,h2,h3,h4,h5,h6,e,↓reduceIte,Nat.reduceAdd,Nat.reduceSub]
theorem CL(n:Int)(hn:1≤n)(hn2:n≤8)(ps:List Place):∀(k:Nat) (d:aD) (l:List Road),d.eD→l.length≤10→k≤10→
 ∃z:Int,nV true [4,6,7,9] (exS aE K.dR) ⟨[.bp 0 0,.bp 1 0,.bp 2 0,I n,.und,.bp 5 0,.und,.und,I k,.und],F3 d ps l⟩=
 some (.exit 4,⟨[.bp 0 0,.bp 1 0,.bp 2 0,I n,.und,.bp 5 0,.und,.und,I z,.und],F3 (aD.more n l d k).2 ps (aD.more n l d k).1⟩)
 | 0,d,l,hd,hl,hk=>by
   refine⟨0,cN ?_ (by simp)⟩
   simp(disch:=omega)only[go_sem,K.dR,aD.more,↓reduceIte,Nat.reduceAdd,Nat.reduceSub]
 | k+1,d,l,hd,hl,hk=>by
   by_cases h:l.length<10
   · have hr:=K7 d hd n hn hn2 ps l h k (by omega)
     obtain⟨z,hz⟩:=CL n hn hn2 ps k (d.rT n).2 (if(d.rT n).1.frm=(d.rT n).1.to then l else l++[(d.rT n).1]) (aD.Ba hd n) (by split<;>(try rw[List.length_append,List.length_singleton])<;>omega) (by omega)
     refine⟨z,jO hr ?_⟩
     rw[hz]
     simp only[aD.more,if_pos h]
   · refine⟨(k:Int)+1,cN ?_ (by simp)⟩
     simp(disch:=omega)only[go_sem,K.dR,aD.more,↓reduceIte,Nat.reduceAdd,Nat.reduceSub]
theorem aD.JD(n:Int):∀(k:Nat) (l:List Road) (d:aD),l.length≤10→(aD.more n l d k).1.length≤10
 | 0,l,d,h=>h
 | k+1,l,d,h=>by
   unfold aD.more
   split
   · exact aD.JD n k _ _ (by split<;>(try rw[List.length_append,List.length_singleton])<;>omega)
   · exact h
theorem aD.Ac(d:aD):2≤d.wu∧d.wu≤7:=by
 unfold aD.wu
 have:=d.ei 6
 have:=d.en (n:=6) (by omega)
 split<;>omega
theorem WG(d:aD)(hd:d.eD):aE 0 N.cL [.bp 0 0] [d.obj]=some (.t d.Ty.1.e,[d.Ty.2.obj]):=by
 refine ak K.nj rfl ?_
 have nb:=d.Ac
 unfold aD.Ty
 have h0:=gY d 6 (by omega) hd
 have l0:=aD.aW hd 6
 have b1:=d.ei 6
 have b2:=d.en (n:=6) (by omega)
 have hL:=d.SP 6
 have hN:(d.wu:Int)=if d.L.length=0 then 4 else 2+(d.next 6).1:=by unfold aD.wu;split<;>omega
 have e1:d.Rh=aD.more d.wu d.DM.1 (d.DM.2.next 4).2 (d.DM.2.next 4).1.toNat:=rfl
 have e2:d.DM=d.Od.2.lW (d.wu-1):=rfl
 have e3:d.Od=(d.next 6).2.ff d.wu:=rfl
 generalize d.Rh=X at*
 generalize d.DM=R at*
 generalize d.Od=P at*
 generalize d.wu=n at*
 generalize d.next 6=a at*
 obtain⟨x,d1⟩:=a
 simp only at h0 l0 b1 b2 hL hN e3 ⊢
 have q1:=K5 d1 l0 n (by omega)
 have lP:=aD.lX l0 n
 have nP:=d1.rU n
 rw[← e3]at q1 lP nP
 obtain⟨ps,d2⟩:=P
 simp only at q1 lP nP e2 ⊢
 have q2:=K6 d2 lP n (by omega) (by omega) ps
 have lR:=aD.pw lP (n-1)
 have nR:=d2.uw (n-1)
 rw[← e2]at q2 lR nR
 obtain⟨rs,d3⟩:=R
 simp only at q2 lR nR e1 ⊢
 have h4:=gY d3 4 (by omega) lR
 have l4:=aD.aW lR 4
 have b3:=d3.ei 4
 have b4:=d3.en (n:=4) (by omega)
 generalize d3.next 4=c at*
 obtain⟨y,d4⟩:=c
 simp only at h4 l4 b3 b4 e1 ⊢
 obtain⟨z,q3⟩:=CL n (by omega) (by omega) ps y.toNat d4 rs l4 (by omega) (by omega)
 rw[← e1]at q3
 have q3:=yq (vs:=[.bp 0 0,.bp 1 0,.bp 2 0,I n,.und,.bp 5 0,I n,.und,I y.toNat,.und]) q3
 have ey:(y.toNat:Int)=y:=by omega
 rw[ey]at q3
 obtain⟨xs,d5⟩:=X
 have fin:∀k:Int,(exS aE K.ql ⟨[.bp 0 0,.bp 1 0,.bp 2 0,I n,.und,.bp 5 0,I n,.und,I y,.und],F3 d4 ps rs⟩)=
  some (.exit 4,⟨[.bp 0 0,.bp 1 0,.bp 2 0,I n,.und,.bp 5 0,.und,.und,I z,.und],F3 d5 ps xs⟩):=fun _=>q3
 clear q3
 have q3:=fin 0
 clear fin
 simp only[F3]at q3
 by_cases c0:d.L.length=0
 · rw[if_pos c0]at hN
   obtain rfl:n=4:=by omega
   have e4:((4:Nat):Int)=4:=rfl
   simp only[e4]at q1 q2 q3
   simp(disch:=omega)only[go_sem,K.cL,↓reduceIte,h0,c0,q1,q2,q3,h4,hL,Nat.reduceAdd,Nat.reduceSub]
 · rw[if_neg c0]at hN
   simp(disch:=omega)only[go_sem,K.cL,↓reduceIte,h0,c0,q1,q2,q3,h4,hL,hN.symm,Nat.reduceAdd,Nat.reduceSub]
theorem aD.Ri(d:aD){n:Nat}{i:Int}(h1:1≤i)(h2:i<n):(d.K3 i).1.ok n:=by
 have b1:=d.ei (min i 2)
 have b2:=d.en (n:=min i 2) (by omega)
 have m2:=(d.next (min i 2)).2.zf (l:=[11,59,119,4]) (by simp)
 have m3:=((d.next (min i 2)).2.of [11,59,119,4]).2.zf (l:=[9,3,19]) (by simp)
 simp only[List.mem_cons,List.not_mem_nil,or_false]at m2 m3
 unfold aD.K3
 constructor<;>(simp only;omega)
theorem aD.F4(d:aD){n:Nat}:∀k,k+1≤n→∀r∈(d.lW k).1,r.ok n
 | 0,_,r,hr=>by simp[aD.lW]at hr
 | k+1,h,r,hr=>by
   simp only[aD.lW,List.mem_append,List.mem_singleton]at hr
   rcases hr with hr | rfl
   · exact d.F4 k (by omega) r hr
   · exact aD.Ri _ (by omega) (by omega)
theorem aD.Rj(d:aD){n:Nat}(hn:1≤n)(hne:(d.rT n).1.frm≠(d.rT n).1.to):(d.rT n).1.ok n:=by
 unfold aD.rT at hne ⊢
 simp only at hne ⊢
 have b1:=d.ei n
 have b2:=d.en (n:=(n:Int)) (by omega)
 generalize d.next n=a1 at*
 obtain⟨x1,d1⟩:=a1
 simp only at*
 have c1:=d1.ei n
 have c2:=d1.en (n:=(n:Int)) (by omega)
 generalize d1.next n=a2 at*
 obtain⟨x2,d2⟩:=a2
 simp only at*
 have m3:=d2.zf (l:=[11,59,199]) (by simp)
 generalize d2.of [11,59,199]=a3 at*
 obtain⟨x3,d3⟩:=a3
 simp only at*
 have m4:=d3.zf (l:=[9,3]) (by simp)
 generalize d3.of [9,3]=a4 at*
 obtain⟨x4,d4⟩:=a4
 simp only[List.mem_cons,List.not_mem_nil,or_false]at m3 m4 ⊢
 constructor<;>(simp only;omega)
theorem aD.Oe{n:Nat}(hn:1≤n):∀(k:Nat) (l:List Road) (d:aD),(∀r∈l,r.ok n)→∀r∈(aD.more n l d k).1,r.ok n
 | 0,l,d,h=>h
 | k+1,l,d,h=>by
   unfold aD.more
   split
   · refine aD.Oe hn k _ _ ?_
     split
     · exact h
     · rename_i hne
       intro r hr
       rcases List.mem_append.1 hr with hr | hr
       · exact h r hr
       · rw[List.mem_singleton.1 hr];exact d.Rj hn hne
   · exact h
theorem aD.F5(n:Int):∀(k:Nat) (l:List Road) (d:aD),l.length≤(aD.more n l d k).1.length
 | 0,l,d=>Nat.le_refl _
 | k+1,l,d=>by
   unfold aD.more
   split
   · refine Nat.le_trans ?_ (aD.F5 n k _ _)
     split<;>(try rw[List.length_append])<;>omega
   · exact Nat.le_refl _
theorem aD.F6(d:aD):∀k,∀p∈(d.ff k).1, -30≤p.h∧p.h≤0
 | 0,p,hp=>by simp[aD.ff]at hp
 | k+1,p,hp=>by
   have b1:=(d.ff k).2.ei 4
   have b2:=(d.ff k).2.en (n:=4) (by omega)
   unfold aD.ff at hp
   split at hp
   all_goals
    simp only[List.mem_append,List.mem_singleton]at hp
    rcases hp with hp | rfl
    · exact d.F6 k p hp
    · simp only;omega
theorem aD.Bb(d:aD):d.Ty.1.places.length=d.wu:=aD.rU _ _
theorem aD.CM(d:aD):d.wu-1≤d.Ty.1.roads.length∧d.Ty.1.roads.length≤10:=by
 have nb:=d.Ac
 have e:d.DM.1.length=d.wu-1:=aD.uw _ _
 constructor
 · rw[← e];exact aD.F5 _ _ _ _
 · exact aD.JD _ _ _ _ (by omega)
theorem aD.Of(d:aD):d.Ty.1.ok:=by
 have nb:=d.Ac
 have h1:=d.Bb
 have h2:=d.CM
 refine⟨by omega,by omega,fun p hp=>?_,?_⟩
 · have:=aD.F6 _ _ p hp;omega
 · rw[h1]
   exact aD.Oe (by omega) _ _ _ (aD.F4 _ _ (by omega))
def aD.acf(d:aD):Spn×aD:=
 let a:=d.of [0,1000,5000,20000, -5000, -20000,4999,100]
 let b:=a.2.of [0,1,1000,6000]
 let c:=b.2.of [0,1,500]
 let w:=c.2.one 9
 (if w.1=true then⟨-1125899906842624,1125899906842624⟩else⟨a.1-b.1,a.1+c.1⟩,w.2)
def aD.JE(d:aD):Nat→List Spn×aD
 | 0=>([],d)
 | k+1=>((d.JE k).1++[((d.JE k).2.acf).1],((d.JE k).2.acf).2)
def aD.ag7(d:aD)(m:aM):List Spn×aD:=d.JE m.roads.length
theorem Og{gc:Bool}{dead:List Nat}{c:C}{vs:List D}{H:ai}(P:Nat→St→Prop)(n:Nat)(Q:Ex×St→Prop)(h0:P 0 ⟨j7 dead vs,H⟩)
 (hs:∀j st,j<n→P j st→(∃st',fG gc dead st.H.length (exS aE c st)=some st'∧P (j+1) st')∨∃q,exS aE c st=some q∧q.1≠ .normal∧Q q)
 (he:∀st,P n st→∃q,exS aE c st=some q∧q.1≠ .normal∧Q q):∃q,exS aE (.loop gc dead c) ⟨vs,H⟩=some q∧Q q:=by
 have key:∀(k j:Nat) (st:St),j+k=n→P j st→∃q,nV gc dead (exS aE c) st=some q∧Q q:=by
  intro k
  induction k with
  | zero=>
    intro j st hj hp
    obtain⟨q,h1,h2,h3⟩:=he st (by rw[← hj];exact hp)
    exact⟨q,cN h1 h2,h3⟩
  | succ k ih=>
    intro j st hj hp
    rcases hs j st (by omega) hp with⟨st',h1,h2⟩ | ⟨q,h1,h2,h3⟩
    · obtain⟨q,h3,h4⟩:=ih (j+1) st' (by omega) h2
      exact⟨q,jO h1 h3,h4⟩
    · exact⟨q,cN h1 h2,h3⟩
 exact key n 0 _ (by omega) h0
theorem acg(l:List Int):aE 0 N.ka [.t (tL l)] []=some (.bp 0 0,[aD.obj ⟨l,0⟩]):=by
 refine ak K.vM rfl ?_
 simp(disch:=omega)only[go_sem,K.ka,↓reduceIte,aD.obj,Nat.reduceAdd,Nat.reduceSub]
theorem Oh{d:aD}(hd:d.eD)(n:Int)(h1:1≤n)(hn:n≤4611686018427387904):
 ∃(v:Int) (e:aD),aE 0 N.aB [.bp 0 0,I n] [d.obj]=some (I v,[e.obj])∧e.eD∧0≤v∧v<n:=
 ⟨_,_,gY d n hn hd,aD.aW hd n,d.ei n,d.en h1⟩
theorem ach{d:aD}(hd:d.eD):
 ∃(m:aM) (e:aD),aE 0 N.cL [.bp 0 0] [d.obj]=some (.t m.e,[e.obj])∧e.eD∧m.ok∧2≤m.places.length∧m.places.length≤7∧1≤m.roads.length∧m.roads.length≤10:=by
 have b:=d.Ac
 have p:=d.Bb
 have r:=d.CM
 exact⟨_,_,WG d hd,aD.K4 hd,d.Of,by omega,by omega,by omega,by omega⟩
end Go.Ev
namespace Go.Ev
open Go
variable [Lib] [bW] [bL] [fJ] [eY]
abbrev never:Int:=1099511627776
abbrev Wh.box(w:Wh):Obj:= .box [I w.time,.t (tL w.frm)]
def K8(w:Wh)(p:Int):Bool:=decide (0≤p∧p≤(w.frm.length:Int)-1)&& !decide (nth w.frm p.toNat=never)
theorem F7(w:Wh)(hw:w.frm.length≤4294967296)(p:Int):aE 0 N.cB [I p,.bp 0 0] [w.box]=some (B (K8 w p),[w.box]):=by
 refine ak K.pZ rfl ?_
 have i:=FM p 0 ((w.frm.length:Int)-1)
 unfold K8
 obtain⟨time,frm⟩:=w
 simp only at*
 by_cases h:0≤p∧p≤(frm.length:Int)-1
 · simp only[h,and_self,decide_true]at i
   obtain⟨h1,h2⟩:=h
   have g:(frm.map (T.int .i64))[p.toNat]?=some (tI (nth frm p.toNat)):=bP _ (by omega)
   by_cases c:nth frm p.toNat=never
   · simp(disch:=omega)only[go_sem,K.cB,↓reduceIte,i,g,Nat.reduceAdd,Nat.reduceSub]
   · simp(disch:=omega)only[go_sem,K.cB,↓reduceIte,i,g,Nat.reduceAdd,Nat.reduceSub]
 · simp only[h,decide_false]at i
   simp only[h,decide_false,Bool.false_and]
   simp(disch:=omega)only[go_sem,K.cB,↓reduceIte,i,Nat.reduceAdd,Nat.reduceSub]
def BS(area:List Int)(ws:List Wh)(k:Nat):Bool:=area.any (K8 (nth ws k))
def Mg(area:List Int)(xs:List World)(i:Nat):Bool:=(List.range (nth xs i).whr.length).any (BS area (nth xs i).whr)
def CN(b:Bel)(area:List Int):Bool:= !(List.range b.worlds.length).any (Mg area b.worlds)
abbrev tW(ws:List Wh):T:= .sl (ws.map Wh.e)
abbrev tX(xs:List World):T:= .sl (xs.map World.e)
theorem F8(area:List Int)(ha:area.length≤4294967296)(xs:List World)(tags:List Int)(ws:List Wh)(hw:ws.length≤1000000)(hf:∀w∈ws,w.frm.length≤1000000)(i:Nat)(a b c d e:D):
 exS aE K.xC ⟨[a,.t (tL area),b,c,d,e,.t (tX xs),I xs.length,I i,.t (tW ws),I ws.length,I 0],[.box [.t (tX xs)],.box [.t (tL tags),.t (tW ws)]]⟩=
 some (if(List.range ws.length).any (BS area ws)=true
  then(.ret,⟨[.und,.t (tL area),.und,B false,.und,.bp 2 0,.t (tX xs),I xs.length,I i,.t (tW ws),I ws.length,I (iY ws.length (BS area ws))],[.box [.t (tX xs)],.box [.t (tL tags),.t (tW ws)],(nth ws (iY ws.length (BS area ws))).box]⟩)
  else(.exit 2,⟨[.und,.t (tL area),.und,.und,.und,.und,.t (tX xs),I xs.length,I i,.t (tW ws),I ws.length,I ws.length],[.box [.t (tX xs)],.box [.t (tL tags),.t (tW ws)]]⟩)):=by
 refine oD (fun k=>⟨[.und,.t (tL area),.und,.und,.und,.und,.t (tX xs),I xs.length,I i,.t (tW ws),I ws.length,I k],[.box [.t (tX xs)],.box [.t (tL tags),.t (tW ws)]]⟩) ws.length (BS area ws)
  (fun k=>(.ret,⟨[.und,.t (tL area),.und,B false,.und,.bp 2 0,.t (tX xs),I xs.length,I i,.t (tW ws),I ws.length,I k],[.box [.t (tX xs)],.box [.t (tL tags),.t (tW ws)],(nth ws k).box]⟩)) _ rfl ?_ ?_ ?_ (by simp)
 · intro k hk hp
   have g:(ws.map Wh.e)[k]?=some (nth ws k).e:=bP _ hk
   have f:=hf _ (ae hk)
   unfold BS at hp
   have cf:aE 0 N.az [.t (tL area),.fn N.cB [.bp 0 0]] [(nth ws k).box]=some (B (area.any (K8 (nth ws k))),[(nth ws k).box]):=
    lI area ha N.cB [[tI (nth ws k).time,tL (nth ws k).frm]] (K8 (nth ws k)) (fun p _=>F7 (nth ws k) (by omega) p)
   rw[hp]at cf
   generalize nth ws k=w at*
   obtain⟨time,frm⟩:=w
   simp only[Wh.box]at*
   simp(disch:=omega)only[go_sem,K.mT,↓reduceIte,g,cf,Nat.reduceAdd,Nat.reduceSub]
 · intro k hk hp
   refine⟨?_,by simp⟩
   have g:(ws.map Wh.e)[k]?=some (nth ws k).e:=bP _ hk
   have f:=hf _ (ae hk)
   unfold BS at hp
   have cf:aE 0 N.az [.t (tL area),.fn N.cB [.bp 0 0]] [(nth ws k).box]=some (B (area.any (K8 (nth ws k))),[(nth ws k).box]):=
    lI area ha N.cB [[tI (nth ws k).time,tL (nth ws k).frm]] (K8 (nth ws k)) (fun p _=>F7 (nth ws k) (by omega) p)
   rw[hp]at cf
   generalize nth ws k=w at*
   obtain⟨time,frm⟩:=w
   simp only[Wh.box]at*
   simp(disch:=omega)only[go_sem,K.mT,↓reduceIte,g,cf,Nat.reduceAdd,Nat.reduceSub]
 · simp(disch:=omega)only[go_sem,K.mT,↓reduceIte,Nat.reduceAdd,Nat.reduceSub]
theorem JF(b:Bel)(hb:b.sz)(area:List Int)(ha:area.length≤4294967296):aE 0 N.ga [.t b.e,.t (tL area)] []=some (B (CN b area),[]):=by
 refine ak K.tN rfl ?_
 obtain⟨xs⟩:=b
 obtain⟨hb1,hb2⟩:=hb
 simp only at hb1 hb2
 have loop:∀a b c e f g:D,exS aE K.xD ⟨[.t (Bel.mk xs).e,.t (tL area),.bp 0 0,a,b,c,.t (tX xs),I xs.length,I 0,e,f,g],[.box [.t (tX xs)]]⟩=
  some (if(List.range xs.length).any (Mg area xs)=true
   then(fun j=>(.ret,⟨[.und,.t (tL area),.und,B false,.und,.bp 2 0,.t (tX xs),I xs.length,I j,.t (tW (nth xs j).whr),I (nth xs j).whr.length,I (iY (nth xs j).whr.length (BS area (nth xs j).whr))],
    [.box [.t (tX xs)],.box [.t (tL (nth xs j).tags),.t (tW (nth xs j).whr)],(nth (nth xs j).whr (iY (nth xs j).whr.length (BS area (nth xs j).whr))).box]⟩):Nat→Ex×St) (iY xs.length (Mg area xs))
   else(.exit 0,⟨[.und,.t (tL area),.und,.und,.und,.und,.t (tX xs),I xs.length,I xs.length,.und,.und,.und],[.box [.t (tX xs)]]⟩)):=by
  intro a b c e f g
  refine oD (fun j=>⟨[.und,.t (tL area),.und,.und,.und,.und,.t (tX xs),I xs.length,I j,.und,.und,.und],[.box [.t (tX xs)]]⟩) xs.length (Mg area xs)
   (fun j=>(.ret,⟨[.und,.t (tL area),.und,B false,.und,.bp 2 0,.t (tX xs),I xs.length,I j,.t (tW (nth xs j).whr),I (nth xs j).whr.length,I (iY (nth xs j).whr.length (BS area (nth xs j).whr))],
    [.box [.t (tX xs)],.box [.t (tL (nth xs j).tags),.t (tW (nth xs j).whr)],(nth (nth xs j).whr (iY (nth xs j).whr.length (BS area (nth xs j).whr))).box]⟩)) _ rfl ?_ ?_ ?_ (by simp)
  · intro j hj hp
    have g1:(xs.map World.e)[j]?=some (nth xs j).e:=bP _ hj
    obtain⟨s1,s2,s3⟩:=hb2 _ (ae hj)
    have l2:=fun a b c d e=>F8 area ha xs (nth xs j).tags (nth xs j).whr s2 s3 j a b c d e
    unfold Mg at hp
    rw[hp]at l2
    simp only[Bool.false_eq_true,↓reduceIte]at l2
    generalize nth xs j=x at*
    obtain⟨tags,whr⟩:=x
    simp only at*
    simp(disch:=omega)only[go_sem,K.mU,↓reduceIte,g1,l2,Nat.reduceAdd,Nat.reduceSub]
  · intro j hj hp
    refine⟨?_,by simp⟩
    have g1:(xs.map World.e)[j]?=some (nth xs j).e:=bP _ hj
    obtain⟨s1,s2,s3⟩:=hb2 _ (ae hj)
    have l2:=fun a b c d e=>F8 area ha xs (nth xs j).tags (nth xs j).whr s2 s3 j a b c d e
    unfold Mg at hp
    rw[hp]at l2
    simp only[↓reduceIte]at l2
    generalize nth xs j=x at*
    obtain⟨tags,whr⟩:=x
    simp only at*
    simp(disch:=omega)only[go_sem,K.mU,↓reduceIte,g1,l2,Nat.reduceAdd,Nat.reduceSub]
  · simp(disch:=omega)only[go_sem,K.mU,↓reduceIte,Nat.reduceAdd,Nat.reduceSub]
 unfold CN
 simp(disch:=omega)only[go_sem,K.ga,↓reduceIte,loop,Nat.reduceAdd,Nat.reduceSub]
 cases hf:(List.range xs.length).any (Mg area xs)with
 | true=>
   simp(disch:=omega)only[go_sem,↓reduceIte,Nat.reduceAdd,Nat.reduceSub]
 | false=>simp(disch:=omega)only[go_sem,↓reduceIte,Bool.false_eq_true,Nat.reduceAdd,Nat.reduceSub]
structure Req where
 x:Rf
 s:aeI
 k:Keys
 b:Bel
 t:Int
 from_:Int
abbrev Req.e(r:Req):T:= .agg [tL r.x.area,tI r.x.hold,tI r.x.mis,tI r.s.st,tI r.s.fi,tI r.s.se,tI r.s.ti,tL r.k.roads,tL r.k.keys,.bool r.k.out,.sl (r.b.worlds.map World.e),tI r.t,tI r.from_]
structure Req.sz(r:Req):Prop where
 hx:r.x.area.length≤1000000
 hk:r.k.roads.length≤1000000
 hk2:r.k.keys.length≤1000000
 hb:r.b.sz
section
variable (x : Rf) (s : aeI) (k : Keys) (b : Bel) (hx : x.area.length ≤ 1000000) (hk : k.roads.length ≤ 1000000) (hk2 : k.keys.length ≤ 1000000) (hb : b.sz)
include hx hk hk2 hb
end
end Go.Ev
namespace Go.Ev
open Go
variable [Lib] [bW] [bL] [fJ] [eY]
def rcP(area:List Int)(w:Wh)(p:Nat):Bool:=decide ((p:Int)∈area)&& !decide (nth w.frm p=never)
theorem WH(area:List Int)(w:Wh):(List.range w.frm.length).any (rcP area w)=area.any (K8 w):=by
 rw[Bool.eq_iff_iff,List.any_eq_true,List.any_eq_true]
 constructor
 · rintro ⟨p,hp,h⟩
   simp only[rcP,Bool.and_eq_true,decide_eq_true_eq,Bool.not_eq_true',decide_eq_false_iff_not]at h
   have hp:=List.mem_range.1 hp
   refine⟨_,h.1,?_⟩
   simp only[K8,Bool.and_eq_true,decide_eq_true_eq,Bool.not_eq_true',decide_eq_false_iff_not,Int.toNat_natCast]
   exact⟨by omega,h.2⟩
 · rintro ⟨p,hp,h⟩
   simp only[K8,Bool.and_eq_true,decide_eq_true_eq,Bool.not_eq_true',decide_eq_false_iff_not]at h
   refine⟨p.toNat,List.mem_range.2 (by omega),?_⟩
   simp only[rcP,Bool.and_eq_true,decide_eq_true_eq,Bool.not_eq_true',decide_eq_false_iff_not]
   have e:((p.toNat:Nat):Int)=p:=by omega
   rw[e]
   exact⟨hp,h.2⟩
section
variable (area : List Int) (ha : area.length ≤ 1000000) (xs : List World) (hx : xs.length ≤ 1000000)
include ha hx
theorem K9(i k:Nat)(w:Wh)(hw:w.frm.length≤1000000)(a b:D):
 exS aE K.vh ⟨[a,.t (tL area),.bp 0 0,b,I i,I k,.t (tL w.frm),I 0],[.box [.t (tX xs)]]⟩=
 some (if area.any (K8 w)=true
  then(.ret,⟨[.und,.t (tL area),.bp 0 0,B false,I i,I k,.t (tL w.frm),I (iY w.frm.length (rcP area w))],[.box [.t (tX xs)]]⟩)
  else(.exit 4,⟨[.und,.t (tL area),.bp 0 0,.und,I i,I k,.t (tL w.frm),I w.frm.length],[.box [.t (tX xs)]]⟩)):=by
 rw[← WH]
 refine oD (fun p=>⟨[.und,.t (tL area),.bp 0 0,.und,I i,I k,.t (tL w.frm),I p],[.box [.t (tX xs)]]⟩) w.frm.length (rcP area w) (fun p=>(.ret,⟨[.und,.t (tL area),.bp 0 0,B false,I i,I k,.t (tL w.frm),I p],[.box [.t (tX xs)]]⟩)) _ rfl ?_ ?_ ?_ (by simp)
 · intro p hp h
   have hs:=u9 area p (by omega)
   unfold rcP at h
   by_cases c:(p:Int)∈area
   · simp only[c,decide_true,Bool.true_and,Bool.not_eq_false',decide_eq_true_eq]at h hs
     simp(disch:=omega)only[go_sem,K.jI,↓reduceIte,hs]
   · simp only[c,decide_false]at hs
     simp(disch:=omega)only[go_sem,K.jI,↓reduceIte,hs]
 · intro p hp h
   refine⟨?_,by simp⟩
   have hs:=u9 area p (by omega)
   simp only[rcP,Bool.and_eq_true,decide_eq_true_eq,Bool.not_eq_true',decide_eq_false_iff_not]at h
   obtain⟨h1,h2⟩:=h
   simp only[h1,decide_true]at hs
   simp(disch:=omega)only[go_sem,K.jI,↓reduceIte,hs]
 · simp(disch:=omega)only[go_sem,K.jI,↓reduceIte]
theorem CO(i:Nat)(hi:i<xs.length)(hw:(nth xs i).whr.length≤1000000)(hf:∀w∈(nth xs i).whr,w.frm.length≤1000000)(a b c d:D):
 exS aE K.vi ⟨[a,.t (tL area),.bp 0 0,b,I i,I 0,c,d],[.box [.t (tX xs)]]⟩=
 some (if(List.range (nth xs i).whr.length).any (BS area (nth xs i).whr)=true
  then(.ret,⟨[.und,.t (tL area),.bp 0 0,B false,I i,I (iY (nth xs i).whr.length (BS area (nth xs i).whr)),.t (tL (nth (nth xs i).whr (iY (nth xs i).whr.length (BS area (nth xs i).whr))).frm),
   I (iY (nth (nth xs i).whr (iY (nth xs i).whr.length (BS area (nth xs i).whr))).frm.length (rcP area (nth (nth xs i).whr (iY (nth xs i).whr.length (BS area (nth xs i).whr)))))],[.box [.t (tX xs)]]⟩)
  else(.exit 2,⟨[.und,.t (tL area),.bp 0 0,.und,I i,I (nth xs i).whr.length,.und,.und],[.box [.t (tX xs)]]⟩)):=by
 have g:(xs.map World.e)[i]?=some (nth xs i).e:=bP _ hi
 have e:=fun k=>K9 area ha xs hx i k
 generalize nth xs i=x at*
 refine oD (fun k=>⟨[.und,.t (tL area),.bp 0 0,.und,I i,I k,.und,.und],[.box [.t (tX xs)]]⟩) x.whr.length (BS area x.whr)
  (fun k=>(.ret,⟨[.und,.t (tL area),.bp 0 0,B false,I i,I k,.t (tL (nth x.whr k).frm),I (iY (nth x.whr k).frm.length (rcP area (nth x.whr k)))],[.box [.t (tX xs)]]⟩)) _ rfl ?_ ?_ ?_ (by simp)
 · intro k hk h
   have g2:(x.whr.map Wh.e)[k]?=some (nth x.whr k).e:=bP _ hk
   have f:=hf _ (ae hk)
   have l3:=fun a b=>e k (nth x.whr k) (by omega) a b
   have h:area.any (K8 (nth x.whr k))=false:=h
   simp only[h,Bool.false_eq_true,if_false]at l3
   clear h e hf
   generalize nth x.whr k=w at*
   obtain⟨time,frm⟩:=w
   obtain⟨tags,whr⟩:=x
   simp only at*
   simp(disch:=omega)only[go_sem,K.lN,↓reduceIte,g,g2,l3]
 · intro k hk h
   refine⟨?_,by simp⟩
   have g2:(x.whr.map Wh.e)[k]?=some (nth x.whr k).e:=bP _ hk
   have f:=hf _ (ae hk)
   have l3:=fun a b=>e k (nth x.whr k) (by omega) a b
   have h:area.any (K8 (nth x.whr k))=true:=h
   simp only[h,if_true]at l3
   clear h e hf
   generalize nth x.whr k=w at*
   obtain⟨time,frm⟩:=w
   obtain⟨tags,whr⟩:=x
   simp only at*
   simp(disch:=omega)only[go_sem,K.lN,↓reduceIte,g,g2,l3]
 · clear e hf
   obtain⟨tags,whr⟩:=x
   simp only at*
   simp(disch:=omega)only[go_sem,K.lN,↓reduceIte,g]
end
theorem F9(b:Bel)(hb:b.sz)(area:List Int)(ha:area.length≤1000000):aE 0 N.fw [.t b.e,.t (tL area)] []=some (B (CN b area),[]):=by
 refine ak K.rJ rfl ?_
 obtain⟨xs⟩:=b
 obtain⟨hb1,hb2⟩:=hb
 simp only at hb1 hb2
 have loop:∀a e f g:D,∃vs,exS aE K.vj ⟨[a,.t (tL area),.bp 0 0,B false,I 0,e,f,g],[.box [.t (tX xs)]]⟩=
  some (if(List.range xs.length).any (Mg area xs)=true
   then(.ret,⟨.und:: .t (tL area):: .bp 0 0::B false::vs,[.box [.t (tX xs)]]⟩)
   else(.exit 0,⟨[.und,.t (tL area),.bp 0 0,.und,I xs.length,.und,.und,.und],[.box [.t (tX xs)]]⟩)):=by
  intro a e f g
  refine⟨_,oD (fun j=>⟨[.und,.t (tL area),.bp 0 0,.und,I j,.und,.und,.und],[.box [.t (tX xs)]]⟩) xs.length (Mg area xs)
   (fun i=>(.ret,⟨.und:: .t (tL area):: .bp 0 0::B false::[I i,I (iY (nth xs i).whr.length (BS area (nth xs i).whr)),.t (tL (nth (nth xs i).whr (iY (nth xs i).whr.length (BS area (nth xs i).whr))).frm),
    I (iY (nth (nth xs i).whr (iY (nth xs i).whr.length (BS area (nth xs i).whr))).frm.length (rcP area (nth (nth xs i).whr (iY (nth xs i).whr.length (BS area (nth xs i).whr)))))],[.box [.t (tX xs)]]⟩)) _ rfl ?_ ?_ ?_ (by simp)⟩
  · intro j hj hp
    obtain⟨s1,s2,s3⟩:=hb2 _ (ae hj)
    have l2:=fun a b c d=>CO area ha xs hb1 j hj s2 s3 a b c d
    unfold Mg at hp
    rw[hp]at l2
    simp only[Bool.false_eq_true,↓reduceIte]at l2
    simp(disch:=omega)only[go_sem,K.lO,↓reduceIte,l2]
  · intro j hj hp
    refine⟨?_,by simp⟩
    obtain⟨s1,s2,s3⟩:=hb2 _ (ae hj)
    have l2:=fun a b c d=>CO area ha xs hb1 j hj s2 s3 a b c d
    unfold Mg at hp
    rw[hp]at l2
    simp only[↓reduceIte]at l2
    simp(disch:=omega)only[go_sem,K.lO,↓reduceIte,l2]
  · simp(disch:=omega)only[go_sem,K.lO,↓reduceIte]
 unfold CN
 obtain⟨vs,loop⟩:=loop (.t (Bel.mk xs).e) .und .und .und
 simp only
 generalize (List.range xs.length).any (Mg area xs)=r at*
 cases r
 · simp only[Bool.false_eq_true,if_false]at loop
   simp(disch:=omega)only[go_sem,K.fw,↓reduceIte,loop]
 · simp only[if_true]at loop
   simp(disch:=omega)only[go_sem,K.fw,↓reduceIte,loop]
end Go.Ev
namespace Go.Ev.K
open Go.Ev
def dh:Fn:={ nargs:=2,vars:=[0,1,2,3,4],body:=(.seq (.reg [w 2 (.bx v0 2),w 3 (.bx v1 1),w 4 (.mv (.c (.nil)))] []) (.seq (.reg [f 1 v2,g l0,u (.ln l0),u (.mf N.bQ [.v 2,.v 3]),u (.ca N.bZ 0 [] [.l 1,.l 0]),w 4 (.mv l0)] []) .ret)),res:=[(4,none)]}
def bQ:Fn:={ nargs:=3,vars:=[0,1,2,4],body:=(.seq (.reg [w 3 (.mv (.b false))] []) (.seq (.reg [f 1 v1,g l0,m v0,a 1 l1 l0,g l0,g v2,u (.bin .leq l1 l0),w 3 (.mv l0)] []) .ret)),res:=[(3,none)]}
end Go.Ev.K
namespace Go.Ev
class jB [Lib]:Prop where
 mL:Lib.fs N.dh=some K.dh
 kE:Lib.fs N.bQ=some K.bQ
namespace K
variable [Lib] [jB]
theorem mL:Lib.fs N.dh=some K.dh:=jB.mL
theorem kE:Lib.fs N.bQ=some K.bQ:=jB.kE
end K
end Go.Ev
namespace Go.Ev.K
open Go.Ev
end Go.Ev.K
namespace Go.Ev
class ec [Lib]:Prop where
namespace K
variable [Lib] [ec]
end K
end Go.Ev
namespace Go.Ev
open Go
variable [Lib] [bW] [bL] [fJ] [eY] [jB] [fM] [fN] [iI] [gu] [ec]
end Go.Ev
namespace Go.Ev
open Go
theorem Ib{d:D}{n:Int}(h:I0 d=some n):d= .t (.int .i64 n):=by
 unfold I0 at h
 split at h
 · cases h;rfl
 · cases h
theorem Oi:∀ {es:List D} {l:List Int},bA I0 es=some l→es=l.map fun x=> .t (.int .i64 x)
 | [],l,h=>by simp[bA]at h;subst h;rfl
 | e::r,l,h=>by
   simp only[bA,Option.bind_eq_some_iff,Option.map_eq_some_iff]at h
   obtain⟨x,hx,y,hy,rfl⟩:=h
   rw[Ib hx,Oi hy];rfl
theorem Bc(x:Int):∀l,(TX x l).Perm (x::l)
 | []=> .refl _
 | y::r=>by
   unfold TX
   split
   · exact .refl _
   · exact((Bc x r).cons y).trans (.swap x y r)
theorem kV:∀l,(jM l).Perm l
 | []=> .refl _
 | x::r=>(Bc x _).trans ((kV r).cons x)
theorem Oj{x:Int}:∀ {l:List Int},l.Pairwise (· ≤ ·)→(TX x l).Pairwise (· ≤ ·)
 | [],_=>by simp[TX]
 | y::r,h=>by
   unfold TX
   split
   · rename_i hx
     refine List.pairwise_cons.2 ⟨fun z hz=>?_,h⟩
     rcases List.mem_cons.1 hz with rfl | hz
     · exact hx
     · have:=(List.pairwise_cons.1 h).1 z hz;omega
   · rename_i hx
     have h':=List.pairwise_cons.1 h
     refine List.pairwise_cons.2 ⟨fun z hz=>?_,Oj h'.2⟩
     have hz:=(Bc x r).mem_iff.1 hz
     rcases List.mem_cons.1 hz with rfl | hz
     · omega
     · exact h'.1 z hz
theorem xG:∀l,(jM l).Pairwise (· ≤ ·)
 | []=> .nil
 | x::r=>Oj (xG r)
theorem m7(l:List Int):(jM l).length=l.length:=(kV l).length_eq
theorem JG(l:List Int):(l.mergeSort fun x y=>decide (x≤y))=jM l:=by
 refine List.Perm.eq_of_pairwise (le:=(· ≤ ·)) (fun a b _ _ h1 h2=>by omega) ?_ (xG l) ((List.mergeSort_perm _ _).trans (kV l).symm)
 have:=List.pairwise_mergeSort (le:=fun x y:Int=>decide (x≤y)) (fun a b c=>by simp;omega) (fun a b=>by simp;omega) l
 exact this.imp (by simp)
end Go.Ev
namespace Go.Ev
open Go
variable [Lib] [bW] [bL] [fJ] [eY] [jB] [fM] [fN] [iI] [gu] [ec]
section
variable (k : Keys) (hl : k.keys.length ≤ 1000000) (hr : k.roads.length ≤ 1000000)
include hl hr
end
end Go.Ev
namespace Go.Ev
open Go
variable [Lib] [bW] [bL] [fJ] [eY] [jB] [fM] [fN] [iI] [gu] [ec]
theorem ag8{a b:List Int}(ha:a.Pairwise (· ≤ ·))(hb:b.Pairwise (· ≤ ·))(p:a.Perm b):a=b:=
 List.Perm.eq_of_pairwise (le:=(· ≤ ·)) (fun a b _ _ h1 h2=>by omega) ha hb p
section
variable (b u v y : Obj) (ds : ai)
end
end Go.Ev
namespace Go.Ev.K
open Go.Ev
def bT:C:=(.its [u (.bin .lss v10 v9)] [] 0 .skip (.exit 0) (.seq (.blk 1 (.seq (.reg [m v10,a 2 v8 v10,h 2 l0,w 7 (.al [.nil,.nil] []),w 6 (.mv l3),u (.st l1 l2 2 [])] []) (.blk 2 (.ite [f 0 v7,g l0,u (.ln l0),u (.ca N.fg 0 [] [.l 0,.i 1,.i 12]),u (.un .not l0),m l0,y 0 false (.fa v7 1),y 1 false (.ld l0 1 false),y 2 false (.ln l0),y 3 false (.fa v7 0),y 4 false (.ld l0 1 false),y 5 false (.ln l0),y 6 false (.bin .neq l3 l0),u (.pk l7 (.b true) l0),m l0,y 0 false (.fa v7 0),y 1 false (.ld l0 1 false),y 2 false (.ca N.fU 0 [] [.l 0]),y 3 false (.un .not l0),u (.pk l4 (.b true) l0),m l0] [] 0 (.seq (.reg [w 4 (.mv (.b false))] []) .ret) (.ite [f 0 v7,g l0,u (.ca N.bj 0 [] [.l 0]),u (.ca N.b7 0 [] [.l 0]),m v5,u (.ca N.aY 0 [] [.l 1,.l 0]),u (.un .not l0),m l0] [] 0 (.seq (.reg [w 4 (.mv (.b false))] []) .ret) (.ite [m v6,u (.bin .gtr l0 (.i 0)),m l0,y 0 true (.fa v3 0),y 1 true (.ld l0 1 false),y 2 true (.mv v6),y 3 true (.bin .sub l0 (.i 1)),y 4 true (.ia l2 l0 2),y 5 true (.fa l0 0),y 6 true (.ld l0 1 false),y 7 true (.fa v7 0),y 8 true (.ld l0 1 false),y 9 true (.ca N.aS 0 [] [.l 2,.l 0]),y 10 true (.bin .geq l0 (.i 0)),u (.pk l11 l0 (.b false)),m l0] [] 0 (.seq (.reg [w 4 (.mv (.b false))] []) .ret) (.ite [f 1 v7,g l0,u (.mf N.dq [.v 2]),u (.ca N.af 0 [] [.l 1,.l 0]),m l0] [] 0 (.seq (.reg [w 4 (.mv (.b false))] []) .ret) .skip))))))) (.reg [u (.bin .add v10 (.i 1)),w 10 (.mv l0)] [])))
def p5:C:= .loop true [0,1,4,6,7] K.bT
def fB:Fn:={ nargs:=2,vars:=[0,1,2,3,4,5,6,7,26,27,28],body:=(.seq (.reg [w 2 (.bx v0 2),w 3 (.bx v1 1),w 4 (.mv (.b false))] []) (.seq (.ite [h 2 v2,u (.ca N.eG 0 [] [.l 0]),u (.un .not l0),m l0,y 0 false (.fa v3 0),y 1 false (.ld l0 1 false),y 2 false (.ln l0),y 3 false (.ca N.fg 0 [] [.l 0,.i 1,.i 24]),y 4 false (.un .not l0),u (.pk l5 (.b true) l0)] [] 0 (.seq (.reg [w 4 (.mv (.b false))] []) .ret) .skip) (.seq (.reg [f 0 v3,g l0,a 2 l0 (.i 0),f 0 l0,g l0,u (.ca N.bj 0 [] [.l 0]),u (.ca N.b7 0 [] [.l 0]),w 5 (.mv l0)] []) (.seq (.seq (.reg [f 0 v3,w 8 (.ld l0 1 false),w 9 (.ln l0),w 10 (.mv (.i 0))] []) (.blk 0 K.p5)) (.seq (.reg [w 4 (.mv (.b true))] []) .ret))))),res:=[(4,none)]}
def b7:Fn:={ nargs:=1,vars:=[2],body:= .fail,res:=[(0,none)],prim:=[2,N.aP]}
def bj:Fn:={ nargs:=1,vars:=[0,1,2],body:=(.seq (.reg [w 1 (.bx v0 1),w 2 (.mv (.c (.und)))] []) (.seq (.reg [u (.mf N.aP [.v 1]),w 2 (.mv l0)] []) .ret)),res:=[(2,none)]}
def fU:Fn:={ nargs:=1,vars:=[0,2,3],body:=(.seq (.reg [w 1 (.mv (.b false))] []) (.seq (.reg [m v0,u (.ca N.bj 0 [] [.l 0]),u (.ca N.b7 0 [] [.l 0]),w 2 (.mv l0)] []) (.seq (.reg [m v2,u (.ca N.eV 0 [] [.l 0,.i 1,.i 65535]),w 1 (.mv l0)] []) .ret))),res:=[(1,none)]}
def cW:C:=(.its [u (.bin .lss v9 v8)] [] 0 .skip (.exit 0) (.seq (.blk 1 (.seq (.reg [m v9,a 1 v7 v9,g l0,w 3 (.mv l2),w 4 (.mv l1)] []) (.seq (.ite [m v3,m v1,u (.ln l0),u (.bin .geq l2 l0)] [] 0 (.seq (.reg [w 2 (.mv (.i 1))] []) .ret) .skip) (.seq (.reg [m v1,m v3,a 1 l1 l0,g l0,w 5 (.mv l0)] []) (.seq (.reg [m v4,m v5,u (.ca N.cu 0 [] [.l 1,.l 0]),w 6 (.mv l0)] []) (.ite [m v6,u (.bin .neq l0 (.i 0))] [] 0 (.seq (.reg [m v6,w 2 (.mv l0)] []) .ret) .skip)))))) (.reg [u (.bin .add v9 (.i 1)),w 9 (.mv l0)] [])))
def kg:C:= .loop true [2,3,4,5,6] K.cW
def aS:Fn:={ nargs:=2,vars:=[0,1,4,5,6,7,8,9,10,11],body:=(.seq (.reg [w 2 (.mv (.i 0))] []) (.seq (.seq (.reg [w 7 (.mv v0),w 8 (.ln l0),w 9 (.mv (.i 0))] []) (.blk 0 K.kg)) (.seq (.ite [m v0,u (.ln l0),m v1,u (.ln l0),u (.bin .lss l2 l0)] [] 0 (.seq (.reg [w 2 (.mv (.i (-1)))] []) .ret) .skip) (.seq (.reg [w 2 (.mv (.i 0))] []) .ret)))),res:=[(2,none)]}
def af:Fn:={ nargs:=2,vars:=[0,1,4],body:=(.seq (.reg [w 2 (.mv (.b false))] []) (.seq (.reg [m v0,m v1,u (.ca N.ax 0 [] [.l 1,.l 0]),u (.bin .geq l0 (.i 0)),w 2 (.mv l0)] []) .ret)),res:=[(2,none)]}
def dq:Fn:={ nargs:=2,vars:=[0,1,2,3],body:=(.seq (.reg [w 2 (.bx v0 2),w 3 (.mv (.b false))] []) (.seq (.reg [h 2 v1,h 2 v2,u (.ca N.eW 0 [] [.l 1,.l 0]),u (.un .not l0),w 3 (.mv l0)] []) .ret)),res:=[(3,none)]}
def oP:C:=(.its [u (.bin .lss v5 v4)] [] 0 .skip (.exit 0) (.seq (.blk 1 (.seq (.reg [a 1 v3 v5,g l0,w 2 (.mv l0)] []) (.ite [m v0,m v2,u (.cw l1 0 [] [.l 0]),u (.un .not l0)] [] 0 .ret .skip))) (.reg [u (.bin .add v5 (.i 1)),w 5 (.mv l0)] [])))
def o5:C:= .loop true [1,2] K.oP
def aP:Fn:={ nargs:=2,vars:=[0,1,4,5,6,7],body:=(.seq (.reg [w 3 (.ld v1 1 false),w 4 (.ln l0),w 5 (.mv (.i 0))] []) (.blk 0 K.o5)),res:=[]}
def cu:Fn:={ nargs:=2,vars:=[0,1,4,5,6],body:=(.seq (.reg [w 2 (.mv (.i 0))] []) (.seq (.reg [m v0,u (.ca N.cmp_isNaN_int 0 [] [.l 0]),w 3 (.mv l0)] []) (.seq (.reg [m v1,u (.ca N.cmp_isNaN_int 0 [] [.l 0]),w 4 (.mv l0)] []) (.seq (.ite [m v3] [] 0 (.seq (.ite [m v4] [] 0 (.seq (.reg [w 2 (.mv (.i 0))] []) .ret) .skip) (.seq (.reg [w 2 (.mv (.i (-1)))] []) .ret)) .skip) (.seq (.ite [m v4] [] 0 (.seq (.reg [w 2 (.mv (.i 1))] []) .ret) .skip) (.seq (.ite [m v0,m v1,u (.bin .lss l1 l0)] [] 0 (.seq (.reg [w 2 (.mv (.i (-1)))] []) .ret) .skip) (.seq (.ite [m v0,m v1,u (.bin .gtr l1 l0)] [] 0 (.seq (.reg [w 2 (.mv (.i 1))] []) .ret) .skip) (.seq (.reg [w 2 (.mv (.i 0))] []) .ret)))))))),res:=[(2,none)]}
def a8:C:=(.its [u (.bin .lss v5 v4)] [] 0 .skip (.exit 0) (.seq (.blk 1 (.seq (.reg [m v5,w 3 (.mv l0)] []) (.ite [m v1,m v0,m v3,a 2 l1 l0,h 2 l0,u (.cw l4 0 [] [.l 0])] [] 0 (.seq (.reg [m v3,w 2 (.mv l0)] []) .ret) .skip))) (.reg [u (.bin .add v5 (.i 1)),w 5 (.mv l0)] [])))
def cK:C:= .loop true [2,3] K.a8
def ax:Fn:={ nargs:=2,vars:=[0,1,4,5,7,8],body:=(.seq (.reg [w 2 (.mv (.i 0))] []) (.seq (.seq (.reg [m v0,w 4 (.ln l0),w 5 (.mv (.i 0))] []) (.blk 0 K.cK)) (.seq (.reg [w 2 (.mv (.i (-1)))] []) .ret))),res:=[(2,none)]}
def cmp_isNaN_int:Fn:={ nargs:=1,vars:=[0,2],body:=(.seq (.reg [w 1 (.mv (.b false))] []) (.seq (.reg [m v0,m v0,u (.bin .neq l1 l0),w 1 (.mv l0)] []) .ret)),res:=[(1,none)]}
end Go.Ev.K
namespace Go.Ev
class du [Lib]:Prop where
 rV:Lib.fs N.fB=some K.fB
 kF:Lib.fs N.b7=some K.b7
 iU:Lib.fs N.bj=some K.bj
 p6:Lib.fs N.fU=some K.fU
 iE:Lib.fs N.aS=some K.aS
 bH:Lib.fs N.af=some K.af
 oQ:Lib.fs N.dq=some K.dq
 kh:Lib.fs N.aP=some K.aP
 mM:Lib.fs N.cu=some K.cu
 bM:Lib.fs N.ax=some K.ax
 oR:Lib.fs N.cmp_isNaN_int=some K.cmp_isNaN_int
namespace K
variable [Lib] [du]
theorem rV:Lib.fs N.fB=some K.fB:=du.rV
theorem kF:Lib.fs N.b7=some K.b7:=du.kF
theorem iU:Lib.fs N.bj=some K.bj:=du.iU
theorem p6:Lib.fs N.fU=some K.fU:=du.p6
theorem iE:Lib.fs N.aS=some K.aS:=du.iE
theorem bH:Lib.fs N.af=some K.af:=du.bH
theorem oQ:Lib.fs N.dq=some K.dq:=du.oQ
theorem kh:Lib.fs N.aP=some K.aP:=du.kh
theorem mM:Lib.fs N.cu=some K.cu:=du.mM
theorem bM:Lib.fs N.ax=some K.ax:=du.bM
theorem oR:Lib.fs N.cmp_isNaN_int=some K.cmp_isNaN_int:=du.oR
end K
end Go.Ev
namespace Go.Ev
open Go
variable [Lib] [bW] [bL] [fJ] [eY] [jB] [fM] [fN] [iI] [gu] [ec] [du]
theorem Bd(l:List Int):aE 0 N.bj [.t (tL l)] []=some (.fn N.aP [.bp 0 0],[.box [.t (tL l)]]):=by
 refine ak K.iU rfl ?_
 simp(disch:=omega)only[go_sem,K.bj,↓reduceIte,Nat.reduceAdd,Nat.reduceSub]
theorem La(l:List Int):Ak (tL l)=some l:=by
 unfold Ak
 simp only
 induction l with
 | nil=>rfl
 | cons x l ih=>
   simp only[List.map_cons,bA]at ih ⊢
   rw[ih];rfl
theorem Be(l:List Int)(hl:l.length≤1000000):aE 0 N.b7 [.fn N.aP [.bp 0 0]] [.box [.t (tL l)]]=some (.t (tL (jM l)),[.box [.t (tL l)]]):=by
 refine FD K.kF (by decide) ?_
 show ya [2,N.aP] _ _=_
 simp only[ya,if_true,List.getElem?_cons_zero,uN,Option.bind_some,La]
 rw[if_pos (by unfold lim;omega)]
theorem JH(a:Int):aE 0 N.cmp_isNaN_int [I a] []=some (B false,[]):=by
 refine ak K.oR rfl ?_
 simp(disch:=omega)only[go_sem,K.cmp_isNaN_int,↓reduceIte,decide_true,Bool.not_true,Nat.reduceAdd,Nat.reduceSub]
def Ol(a b:Int):Int:=if a<b then -1 else if b<a then 1 else 0
theorem Tz(a b:Int):aE 0 N.cu [I a,I b] []=some (I (Ol a b),[]):=by
 refine ak K.mM rfl ?_
 have h1:=JH a
 have h2:=JH b
 unfold Ol
 by_cases c1:a<b
 · simp(disch:=omega)only[go_sem,K.cu,↓reduceIte,h1,h2,c1,Bool.false_eq_true,Nat.reduceAdd,Nat.reduceSub]
 · by_cases c2:b<a
   · simp(disch:=omega)only[go_sem,K.cu,↓reduceIte,h1,h2,c1,c2,Bool.false_eq_true,Nat.reduceAdd,Nat.reduceSub]
   · simp(disch:=omega)only[go_sem,K.cu,↓reduceIte,h1,h2,c1,c2,Bool.false_eq_true,Nat.reduceAdd,Nat.reduceSub]
def JI(a b:List Int)(j:Nat):Bool:=decide (b.length≤j)||decide (nth a j≠nth b j)
def Rk(a b:List Int):Int:=match (List.range a.length).find? (JI a b)with
 | some j=>if b.length≤j then 1 else Ol (nth a j) (nth b j)
 | none=>if a.length<b.length then -1 else 0
theorem CP(a b:List Int)(ha:a.length≤1000000)(hb:b.length≤1000000):aE 0 N.aS [.t (tL a),.t (tL b)] []=some (I (Rk a b),[]):=by
 refine ak K.iE rfl ?_
 have loop:∀z2 z3 z4 z5 z6:D,exS aE K.kg ⟨[.t (tL a),.t (tL b),z2,z3,z4,z5,z6,.t (tL a),I a.length,I 0],[]⟩=
  some (match (List.range a.length).find? (JI a b)with
   | some j=>(.ret,⟨[.t (tL a),.t (tL b),I (if b.length≤j then 1 else Ol (nth a j) (nth b j)),I j,I (nth a j),if b.length≤j then .und else I (nth b j),if b.length≤j then .und else I (Ol (nth a j) (nth b j)),.t (tL a),I a.length,I j],[]⟩)
   | none=>(.exit 0,⟨[.t (tL a),.t (tL b),.und,.und,.und,.und,.und,.t (tL a),I a.length,I a.length],[]⟩)):=by
  intro z2 z3 z4 z5 z6
  refine cE (fun j=>⟨[.t (tL a),.t (tL b),.und,.und,.und,.und,.und,.t (tL a),I a.length,I j],[]⟩) a.length (JI a b) _ _ rfl ?_ ?_ ?_ (by simp)
  · intro j hj hp
    simp only[JI,Bool.or_eq_false_iff,decide_eq_false_iff_not,Decidable.not_not]at hp
    obtain⟨h1,h2⟩:=hp
    have c:=Tz (nth a j) (nth b j)
    rw[h2]at c
    have e:Ol (nth b j) (nth b j)=0:=by unfold Ol;rw[if_neg (by omega),if_neg (by omega)]
    rw[e]at c
    simp(disch:=omega)only[go_sem,K.cW,↓reduceIte,h2,c,Nat.reduceAdd,Nat.reduceSub]
  · intro j hj hp
    refine⟨?_,by simp⟩
    by_cases h1:b.length≤j
    · rw[if_pos h1,if_pos h1,if_pos h1]
      simp(disch:=omega)only[go_sem,K.cW,↓reduceIte,Nat.reduceAdd,Nat.reduceSub]
    · rw[if_neg h1,if_neg h1,if_neg h1]
      have h2:nth a j≠nth b j:=by simpa [JI,h1]using hp
      have c:=Tz (nth a j) (nth b j)
      have e:Ol (nth a j) (nth b j)≠0:=by
       unfold Ol;split
       · omega
       · split<;>omega
      generalize Ol (nth a j) (nth b j)=v at*
      simp(disch:=omega)only[go_sem,K.cW,↓reduceIte,c,e,Nat.reduceAdd,Nat.reduceSub]
  · simp(disch:=omega)only[go_sem,K.cW,↓reduceIte,Nat.reduceAdd,Nat.reduceSub]
 unfold Rk
 cases hf:(List.range a.length).find? (JI a b)with
 | some j=>
   simp only[hf]at loop
   simp(disch:=omega)only[go_sem,K.aS,↓reduceIte,loop,Nat.reduceAdd,Nat.reduceSub]
 | none=>
   simp only[hf]at loop
   by_cases h:a.length<b.length
   · simp(disch:=omega)only[go_sem,K.aS,↓reduceIte,loop,h,Nat.reduceAdd,Nat.reduceSub]
   · simp(disch:=omega)only[go_sem,K.aS,↓reduceIte,loop,h,Nat.reduceAdd,Nat.reduceSub]
end Go.Ev
namespace Go.Ev
open Go
variable [Lib] [bW] [bL]
theorem rW:∀ {l l':List Int},l.Nodup→(∀x∈l,x∈l')→l.length≤l'.length
 | [],_,_,_=>by simp
 | a::l,l',hn,hs=>by
   obtain⟨h1,h2⟩:=List.nodup_cons.1 hn
   have ha:a∈l':=hs a List.mem_cons_self
   have:=rW (l:=l) (l':=l'.erase a) h2 fun x hx=>by
    have hne:x≠a:=fun e=>h1 (e▸hx)
    exact(List.mem_erase_of_ne hne).2 (hs x (List.mem_cons_of_mem _ hx))
   have h3:=List.length_erase_of_mem ha
   have h4:0<l'.length:=List.length_pos_of_mem ha
   simp only[List.length_cons]
   omega
theorem mN{l:List Int}{x:Int}:0≤b6 l x↔x∈l:=by
 unfold b6
 cases hf:(List.range l.length).find? (fun j=>decide (nth l j=x))with
 | some j=>
   obtain⟨h1,h2⟩:=AT hf
   have:=ae h1
   rw[of_decide_eq_true h2]at this
   simp[this]
 | none=>
   have:=List.find?_eq_none.1 hf
   simp only[Int.reduceNeg]
   constructor
   · intro h;simp at h
   · intro h
     obtain⟨j,hj⟩:=List.mem_iff_getElem?.1 h
     have hl:=(List.getElem?_eq_some_iff.1 hj).1
     have:=this j (List.mem_range.2 hl)
     rw[bG hj]at this
     simp at this
theorem jT{l:List Int}(h:fy l=true):l.Nodup:=by
 simp only[fy,List.all_eq_true,List.mem_range,oI,decide_eq_true_eq]at h
 refine List.pairwise_iff_getElem.2 fun i j hi hj hij e=>?_
 obtain⟨-, -,h3⟩:=h j hj
 have h4:¬nth l j∈l.take j:=fun hm=>by have:=mN.2 hm;omega
 apply h4
 apply List.mem_iff_getElem?.2
 refine⟨i,?_⟩
 rw[List.getElem?_take_of_lt hij,List.getElem?_eq_getElem hi,e,←List.getElem?_eq_getElem hj,fQ hj]
theorem fK{m:aM}{b:Bel}(h:rG m b=true):1≤b.worlds.length∧b.worlds.length≤24∧1≤(nth b.worlds 0).tags.length∧(nth b.worlds 0).tags.length≤12∧
 ∀i,i<b.worlds.length→pq m b.worlds (nth b.worlds 0).tags i=true:=by
 simp only[rG,Bool.and_eq_true,decide_eq_true_eq,List.all_eq_true,List.mem_range]at h
 exact⟨h.1.1.1,h.1.1.2,h.1.2.1,h.1.2.2,h.2⟩
theorem hU{m:aM}{ws:List World}{first:List Int}{i:Nat}(h:pq m ws first i=true):(nth ws i).tags.length=first.length∧(nth ws i).whr.length=first.length∧fy (nth ws i).tags=true∧
 ∀k,k<(nth ws i).tags.length→nth (nth ws i).tags k∈first∧dg m (nth (nth ws i).whr k)=true:=by
 simp only[pq,Bool.and_eq_true,decide_eq_true_eq,List.all_eq_true,List.mem_range,KX]at h
 exact⟨h.1.1.1.1,h.1.1.1.2,h.1.1.2,fun k hk=>⟨mN.1 (h.2 k hk).1,(h.2 k hk).2⟩⟩
theorem Bf{m:aM}{b:Bel}(h:rG m b=true){tag:Int}(ht:0≤b6 (nth b.worlds 0).tags tag){i:Nat}(hi:i<b.worlds.length):
 0≤b6 (nth b.worlds i).tags tag:=by
 obtain⟨h1,h2,h3,h4,h5⟩:=fK h
 obtain⟨w1,w2,w3,w4⟩:=hU (h5 i hi)
 apply mN.2
 apply Classical.byContradiction
 intro hn
 have:=rW (l:=tag::(nth b.worlds i).tags) (l':=(nth b.worlds 0).tags) (List.nodup_cons.2 ⟨hn,jT w3⟩) (by
  intro x hx
  rcases List.mem_cons.1 hx with e | hx
  · rw[e];exact mN.1 ht
  · obtain⟨j,hj⟩:=List.mem_iff_getElem?.1 hx
    have:=(w4 j (List.getElem?_eq_some_iff.1 hj).1).1
    rwa [bG hj]at this)
 simp only[List.length_cons]at this
 omega
def oS(m:aM)(b:Bel)(tag:Int):Int:=if rG m b=false then 6 else if b6 (nth b.worlds 0).tags tag<0 then 41 else 0
theorem JJ{m:aM}(h:m.ok)(b:Bel)(hs:b.sz)(tag:Int):aE 0 N.eB [.t m.e,.t b.e,I tag] []=some (I (oS m b tag),[]):=by
 refine ak K.qU rfl ?_
 have v:=H6 h b hs
 unfold oS
 cases hv:rG m b with
 | false=>
   rw[hv]at v
   obtain⟨ws⟩:=b
   simp(disch:=omega)only[go_sem,K.eB,↓reduceIte,v]
 | true=>
   rw[hv]at v
   obtain⟨h1,h2,h3,h4,h5⟩:=fK hv
   have br:=oH (nth b.worlds 0).tags tag (by omega)
   obtain⟨ws⟩:=b
   simp only at h1 br ⊢
   by_cases c:b6 (nth ws 0).tags tag<0
   · simp(disch:=omega)only[go_sem,K.eB,↓reduceIte,v,br,c,Bool.true_eq_false]
   · simp(disch:=omega)only[go_sem,K.eB,↓reduceIte,v,br,c,Bool.true_eq_false]
def Rl(a b:Wh)(t:Int):Bool:=(List.range (min a.frm.length b.frm.length)).any fun p=>decide (nth a.frm p≤t∧nth b.frm p≤t)
theorem WI(a b:Wh)(t:Int)(ha:a.frm.length≤1000000):aE 0 N.i7 [.t a.e,.t b.e,I t] []=some (B (Rl a b t),[]):=by
 refine ak K.s9 rfl ?_
 obtain⟨t1,l1⟩:=a
 obtain⟨t2,l2⟩:=b
 unfold Rl
 simp only at ha ⊢
 have loop:∀x y z:D,exS aE K.xj ⟨[x,y,I t,.bp 0 0,.bp 1 0,z,I 0],[.box [I t1,.t (tL l1)],.box [I t2,.t (tL l2)]]⟩=
  some (match (List.range (min l1.length l2.length)).find? (fun p=>decide (nth l1 p≤t∧nth l2 p≤t))with
   | some j=>(.ret,⟨[.und,.und,I t,.bp 0 0,.bp 1 0,B true,I j],[.box [I t1,.t (tL l1)],.box [I t2,.t (tL l2)]]⟩)
   | none=>(.exit 0,⟨[.und,.und,I t,.bp 0 0,.bp 1 0,.und,I (min l1.length l2.length:Nat)],[.box [I t1,.t (tL l1)],.box [I t2,.t (tL l2)]]⟩)):=by
  intro x y z
  refine cE (fun j=>⟨[.und,.und,I t,.bp 0 0,.bp 1 0,.und,I j],[.box [I t1,.t (tL l1)],.box [I t2,.t (tL l2)]]⟩) (min l1.length l2.length) (fun p=>decide (nth l1 p≤t∧nth l2 p≤t)) _ _ rfl ?_ ?_ ?_ (by simp)
  · intro j hj hp
    have hp:¬(nth l1 j≤t∧nth l2 j≤t):=of_decide_eq_false hp
    by_cases c:nth l1 j≤t
    · simp(disch:=omega)only[go_sem,K.ja,↓reduceIte,c]
    · simp(disch:=omega)only[go_sem,K.ja,↓reduceIte,c]
  · intro j hj hp
    have hp:nth l1 j≤t∧nth l2 j≤t:=of_decide_eq_true hp
    refine⟨?_,by simp⟩
    simp(disch:=omega)only[go_sem,K.ja,↓reduceIte]
  · by_cases h1:l1.length≤l2.length
    · have e:min l1.length l2.length=l1.length:=by omega
      rw[e]
      simp(disch:=omega)only[go_sem,K.ja,↓reduceIte]
    · have e:min l1.length l2.length=l2.length:=by omega
      rw[e]
      simp(disch:=omega)only[go_sem,K.ja,↓reduceIte]
 rw[← DA]
 simp(disch:=omega)only[go_sem,K.i7,↓reduceIte,loop]
 cases hf:(List.range (min l1.length l2.length)).find? (fun p=>decide (nth l1 p≤t∧nth l2 p≤t))with
 | some j=>simp(disch:=omega)only[go_sem,↓reduceIte,Option.isSome]
 | none=>simp(disch:=omega)only[go_sem,↓reduceIte,Option.isSome]
def BT(b:Bel)(person t:Int)(p:Nat):Bool:=(List.range b.worlds.length).any fun i=>decide (0≤person∧person<(nth b.worlds i).whr.length)&&decide ((p:Int)∈lg (nth (nth b.worlds i).whr person.toNat) t)
def wy(b:Bel)(person t:Int):List Int:=bz 64 (BT b person t)
theorem DO(b:Bel)(hs:b.sz)(person t:Int):aE 0 N.dK [.t b.e,I person,I t] []=some (.t (tL (wy b person t)),[]):=by
 refine ak K.ns rfl ?_
 obtain⟨h1,h2⟩:=hs
 obtain⟨ws⟩:=b
 simp only at h1 h2
 have hlen:=fun k=>dY k (BT ⟨ws⟩ person t)
 have inner:∀(j:Nat),j<64→∀a c:D,exS aE K.qm ⟨[a,I person,I t,.bp 0 0,c,.ref 1 0 (bz j (BT ⟨ws⟩ person t)).length,I j,I 0],[.box [.t (.sl (ws.map World.e))],.arr 1 false 0 (((bz j (BT ⟨ws⟩ person t)).map (T.int .i64)).map .t)]⟩=
  some (match (List.range ws.length).find? (fun i=>decide (0≤person∧person<(nth ws i).whr.length)&&decide ((j:Int)∈lg (nth (nth ws i).whr person.toNat) t))with
   | some i=>(.exit 2,⟨[.und,I person,I t,.bp 0 0,.und,.ref 1 0 ((bz j (BT ⟨ws⟩ person t)).length+1),I j,I i],[.box [.t (.sl (ws.map World.e))],.arr 1 false 0 (((bz j (BT ⟨ws⟩ person t)++[(j:Int)]).map (T.int .i64)).map .t)]⟩)
   | none=>(.exit 2,⟨[.und,I person,I t,.bp 0 0,.und,.ref 1 0 (bz j (BT ⟨ws⟩ person t)).length,I j,I ws.length],[.box [.t (.sl (ws.map World.e))],.arr 1 false 0 (((bz j (BT ⟨ws⟩ person t)).map (T.int .i64)).map .t)]⟩)):=by
  intro j hj a c
  have hlen:=hlen j
  refine cE (fun i=>⟨[.und,I person,I t,.bp 0 0,.und,.ref 1 0 (bz j (BT ⟨ws⟩ person t)).length,I j,I i],[.box [.t (.sl (ws.map World.e))],.arr 1 false 0 (((bz j (BT ⟨ws⟩ person t)).map (T.int .i64)).map .t)]⟩) ws.length _ _ _ rfl ?_ ?_ ?_ (by simp)
  · intro i hi hp
    have sz:=h2 _ (ae hi)
    generalize hx:nth ws i=x at*
    obtain⟨tags,whr⟩:=x
    obtain⟨s1,s2,s3⟩:=sz
    simp only at s1 s2 s3 hp
    generalize bz j (BT ⟨ws⟩ person t)=L at*
    by_cases c1:0≤person
    · by_cases c2:person<whr.length
      · have ps:=xr (nth whr person.toNat) t (s3 _ (ae (by omega)))
        have hs:=u9 (lg (nth whr person.toNat) t) j (by
         have:=dY (nth whr person.toNat).frm.length (fun j=>decide (nth (nth whr person.toNat).frm j≤t))
         have:=s3 _ (ae (l:=whr) (j:=person.toNat) (by omega))
         unfold lg;omega)
        simp only[c1,c2,and_self,decide_true,Bool.true_and,decide_eq_false_iff_not]at hp
        simp only[hp,decide_false]at hs
        generalize hy:nth whr person.toNat=y at*
        obtain⟨time,frm⟩:=y
        simp(disch:=omega)only[go_sem,K.fh,↓reduceIte,hx,hy,ps,hs]
      · simp(disch:=omega)only[go_sem,K.fh,↓reduceIte,hx]
    · simp(disch:=omega)only[go_sem,K.fh,↓reduceIte,hx]
  · intro i hi hp
    have sz:=h2 _ (ae hi)
    generalize hx:nth ws i=x at*
    obtain⟨tags,whr⟩:=x
    obtain⟨s1,s2,s3⟩:=sz
    simp only[Bool.and_eq_true,decide_eq_true_eq]at s1 s2 s3 hp
    obtain⟨⟨c1,c2⟩,c3⟩:=hp
    generalize bz j (BT ⟨ws⟩ person t)=L at*
    have ps:=xr (nth whr person.toNat) t (s3 _ (ae (by omega)))
    have hs:=u9 (lg (nth whr person.toNat) t) j (by
     have:=dY (nth whr person.toNat).frm.length (fun j=>decide (nth (nth whr person.toNat).frm j≤t))
     have:=s3 _ (ae (l:=whr) (j:=person.toNat) (by omega))
     unfold lg;omega)
    simp only[c3,decide_true]at hs
    generalize hy:nth whr person.toNat=y at*
    obtain⟨time,frm⟩:=y
    refine⟨?_,by simp⟩
    simp(disch:=omega)only[go_sem,K.fh,↓reduceIte,hx,hy,ps,hs]
  · generalize bz j (BT ⟨ws⟩ person t)=L at*
    simp(disch:=omega)only[go_sem,K.fh,↓reduceIte]
 have loop:∀a b c:D,exS aE K.qn ⟨[a,I person,I t,.bp 0 0,b,.ref 1 0 0,I 0,c],[.box [.t (.sl (ws.map World.e))],.arr 1 false 0 []]⟩=
  some (.exit 0,⟨[.und,I person,I t,.bp 0 0,.und,.ref 1 0 (bz 64 (BT ⟨ws⟩ person t)).length,I 64,.und],[.box [.t (.sl (ws.map World.e))],.arr 1 false 0 (((bz 64 (BT ⟨ws⟩ person t)).map (T.int .i64)).map .t)]⟩):=by
  intro a b c
  refine bR (fun j=>⟨[.und,I person,I t,.bp 0 0,.und,.ref 1 0 (bz j (BT ⟨ws⟩ person t)).length,I j,.und],[.box [.t (.sl (ws.map World.e))],.arr 1 false 0 (((bz j (BT ⟨ws⟩ person t)).map (T.int .i64)).map .t)]⟩) 64 rfl ?_ ?_ (by simp)
  · intro j hj
    have inner:=inner j hj
    have hlen:=hlen j
    rw[iQ]
    have e:BT ⟨ws⟩ person t j=((List.range ws.length).find? (fun i=>decide (0≤person∧person<(nth ws i).whr.length)&&decide ((j:Int)∈lg (nth (nth ws i).whr person.toNat) t))).isSome:=by rw[DA];rfl
    cases hf:(List.range ws.length).find? (fun i=>decide (0≤person∧person<(nth ws i).whr.length)&&decide ((j:Int)∈lg (nth (nth ws i).whr person.toNat) t))with
    | some i=>
      rw[hf]at e inner
      simp only[Option.isSome]at e
      simp(disch:=omega)only[go_sem,K.ju,↓reduceIte,inner,e]
    | none=>
      rw[hf]at e inner
      simp only[Option.isSome]at e
      simp(disch:=omega)only[go_sem,K.ju,↓reduceIte,inner,e,Bool.false_eq_true]
  · simp(disch:=omega)only[go_sem,K.ju,↓reduceIte]
    rfl
 have:=hlen 64
 simp(disch:=omega)only[go_sem,K.dK,↓reduceIte,loop,wy]
def iF(m:aM)(starts:List Int)(t:Int)(j:Nat):List Wh:=(List.range j).map fun i=>(gT m (nth starts i) t).1
theorem Ga(m:aM)(starts:List Int)(t:Int)(j:Nat):iF m starts t (j+1)=iF m starts t j++[(gT m (nth starts j) t).1]:=by
 unfold iF;rw[List.range_succ,List.map_append];rfl
@[simp] theorem rX (m : aM) (starts : List Int) (t : Int) (j : Nat) : (iF m starts t j).length = j := by simp [iF]
def ux(m:aM)(tags starts:List Int)(t:Int):Bel×Int:=
 if tags.length=starts.length∧1≤tags.length∧tags.length≤12 then
  if fy tags=true then match (List.range tags.length).find? (fun i=> !decide ((gT m (nth starts i) t).2=0))with
   | some i=>(⟨[]⟩,(gT m (nth starts i) t).2)
   | none=>(⟨[⟨tags,iF m starts t tags.length⟩]⟩,0)
  else(⟨[]⟩,41)
 else(⟨[]⟩,6)
abbrev stH(m:aM)(tags:List Int)(r:D)(ws:List Wh):ai:=[.box (aa m),.box [r],.arr 1 false 0 ((tags.map (T.int .i64)).map .t),.box [.ref 2 0 tags.length,.ref 5 0 ws.length],.arr 2 false 0 [],.arr 2 false 0 ((ws.map Wh.e).map .t)]
theorem Ic{m:aM}(h:m.ok)(tags starts:List Int)(hl:tags.length≤1000000)(t:Int):
 aE 0 N.dy [.t m.e,.t (tL tags),.t (tL starts),I t] []=some (.tup [.t (ux m tags starts t).1.e,I (ux m tags starts t).2],[]):=by
 refine ak K.qN rfl ?_
 have ck:=rq h
 have pr:=FW tags hl
 unfold ux
 by_cases c1:tags.length=starts.length
 · by_cases c2:tags.length<1
   · simp(disch:=omega)only[go_sem,K.dy,↓reduceIte,ck,show ¬(tags.length=starts.length∧1≤tags.length∧tags.length≤12)by omega]
     rfl
   · by_cases c3:12<tags.length
     · simp(disch:=omega)only[go_sem,K.dy,↓reduceIte,ck,show ¬(tags.length=starts.length∧1≤tags.length∧tags.length≤12)by omega]
       rfl
     · have c:tags.length=starts.length∧1≤tags.length∧tags.length≤12:=by omega
       rw[if_pos c]
       clear c
       cases hp:fy tags with
       | false=>
         rw[hp]at pr
         simp(disch:=omega)only[go_sem,K.dy,↓reduceIte,ck,pr,Bool.false_eq_true]
         rfl
       | true=>
         rw[hp]at pr
         have loop:∀a b c d:D,exS aE K.uT ⟨[a,.t (tL tags),.t (tL starts),I t,.bp 0 0,.bp 1 0,b,.bp 3 0,I 0,c,d],stH m tags .nil []⟩=
          some (match (List.range tags.length).find? (fun i=> !decide ((gT m (nth starts i) t).2=0))with
           | some i=>(.ret,⟨[.und,.t (tL tags),.t (tL starts),I t,.bp 0 0,.bp 1 0,I (gT m (nth starts i) t).2,.bp 3 0,I i,.bp 6 0,I (gT m (nth starts i) t).2],stH m tags .nil (iF m starts t i)++[.box [I (gT m (nth starts i) t).1.time,.t (tL (gT m (nth starts i) t).1.frm)]]⟩)
           | none=>(.exit 0,⟨[.und,.t (tL tags),.t (tL starts),I t,.bp 0 0,.bp 1 0,.und,.bp 3 0,I tags.length,.und,.und],stH m tags .nil (iF m starts t tags.length)⟩)):=by
          intro a b c d
          refine cE (fun j=>⟨[.und,.t (tL tags),.t (tL starts),I t,.bp 0 0,.bp 1 0,.und,.bp 3 0,I j,.und,.und],stH m tags .nil (iF m starts t j)⟩) tags.length _ _ _ rfl ?_ ?_ ?_ (by simp)
          · intro j hj hp
            have st:=Js h (nth starts j) t
            have ln:=rX m starts t j
            have hp:(gT m (nth starts j) t).2=0:=by simpa using hp
            rw[Ga]
            generalize iF m starts t j=L at*
            generalize gT m (nth starts j) t=r at*
            obtain⟨⟨time,frm⟩,e⟩:=r
            simp only at st hp ⊢
            subst hp
            simp(disch:=omega)only[go_sem,K.lC,↓reduceIte,stH,st,Nat.reduceAdd,Nat.reduceSub]
            done
          · intro j hj hp
            have st:=Js h (nth starts j) t
            have ln:=rX m starts t j
            have hp:(gT m (nth starts j) t).2≠0:=by simpa using hp
            generalize iF m starts t j=L at*
            generalize gT m (nth starts j) t=r at*
            obtain⟨⟨time,frm⟩,e⟩:=r
            simp only at st hp ⊢
            refine⟨?_,by simp⟩
            simp(disch:=omega)only[go_sem,K.lC,↓reduceIte,stH,st,Nat.reduceAdd,Nat.reduceSub]
            done
          · have ln:=rX m starts t tags.length
            generalize iF m starts t tags.length=L at*
            simp(disch:=omega)only[go_sem,K.lC,↓reduceIte]
         simp only[stH,List.map_nil,List.length_nil]at loop
         simp(disch:=omega)only[go_sem,K.dy,↓reduceIte,ck,pr,loop]
         cases hf:(List.range tags.length).find? (fun i=> !decide ((gT m (nth starts i) t).2=0))with
         | some i=>
           simp(disch:=omega)only[go_sem,↓reduceIte]
           rfl
         | none=>
           have ln:=rX m starts t tags.length
           generalize iF m starts t tags.length=L at*
           simp(disch:=omega)only[go_sem,↓reduceIte]
           rfl
 · simp(disch:=omega)only[go_sem,K.dy,↓reduceIte,ck,show ¬(tags.length=starts.length∧1≤tags.length∧tags.length≤12)by omega]
   rfl
@[go_sem] theorem aeJ : ([] : List D).all om = true := (rfl)
@[go_sem] theorem aci (d : D) (r : List D) : (d :: r).all om = (om d && r.all om) := (rfl)
@[go_sem] theorem WJ (cs : List T) : om (.t (.agg cs)) = false := (rfl)
@[go_sem] theorem WK (k : IntKind) (n : Int) : om (.t (.int k n)) = true := (rfl)
@[go_sem] theorem aia (l : List Wh) (k : Nat) (a : Int) (b : List Int) : (List.map D.t (List.map Wh.e l)).set k (D.t (T.agg [tI a, tL b])) = List.map D.t (List.map Wh.e (l.set k ⟨a, b⟩)) := by
 rw[List.map_set,List.map_set]
def CQ(m:aM)(tag:Int)(l:List Int)(a b:Int)(x:World):Wh×Int:=BR m (nth x.whr (b6 x.tags tag).toNat) l a b
def Ie(tag:Int)(x:World)(w:Wh):World:=⟨x.tags,x.whr.set (b6 x.tags tag).toNat w⟩
def Gb(tag:Int)(r:Wh×Int)(x:World)(out:List World):List World:=
 if r.2=43 then out else out++[if r.2=0 then Ie tag x r.1 else x]
def oT(m:aM)(tag:Int)(l:List Int)(a b:Int)(ws:List World):Nat→List World
 | 0=>[]
 | j+1=>Gb tag (CQ m tag l a b (nth ws j)) (nth ws j) (oT m tag l a b ws j)
theorem Om(tag:Int)(r:Wh×Int)(x:World)(out:List World):(Gb tag r x out).length≤out.length+1:=by
 unfold Gb;split<;>simp
theorem xH(m:aM)(tag:Int)(l:List Int)(a b:Int)(ws:List World):∀j,(oT m tag l a b ws j).length≤j
 | 0=>by simp[oT]
 | j+1=>by
   have:=xH m tag l a b ws j
   have:=Om tag (CQ m tag l a b (nth ws j)) (nth ws j) (oT m tag l a b ws j)
   simp only[oT];omega
abbrev yG(m:aM)(ws out:List World):ai:=[.box (aa m),.box [.t (.sl (ws.map World.e))],.box [.nil],.box [.ref 4 0 out.length],.arr 2 false 0 ((out.map World.e).map .t)]
theorem Gc{m:aM}(h:m.ok)(ws:List World)(hw:ws.length≤1000000)(tag:Int)(l:List Int)(hp:l.length≤1000000)(a b:Int)(i:Nat)(hi:i<ws.length)(hs:(nth ws i).sz)
 (hb:0≤b6 (nth ws i).tags tag) (hb2:b6 (nth ws i).tags tag<(nth ws i).whr.length) (out:List World) (ho:out.length≤1000000):
 ((CQ m tag l a b (nth ws i)).2≠6∧(CQ m tag l a b (nth ws i)).2≠8→fG true [0,1,9,10,13,14,15,16,17,18] 5 (exS aE K.eM ⟨[.und,.und,I tag,.t (tL l),I a,I b,.bp 0 0,.bp 1 0,.bp 2 0,.und,.und,.bp 3 0,I i,.und,.und,.und,.und,.und,.und],yG m ws out⟩)=
   some ⟨[.und,.und,I tag,.t (tL l),I a,I b,.bp 0 0,.bp 1 0,.bp 2 0,.und,.und,.bp 3 0,I (i+1),.und,.und,.und,.und,.und,.und],yG m ws (Gb tag (CQ m tag l a b (nth ws i)) (nth ws i) out)⟩)∧
 ((CQ m tag l a b (nth ws i)).2=6∨(CQ m tag l a b (nth ws i)).2=8→∃vs H,exS aE K.eM ⟨[.und,.und,I tag,.t (tL l),I a,I b,.bp 0 0,.bp 1 0,.bp 2 0,.und,.und,.bp 3 0,I i,.und,.und,.und,.und,.und,.und],yG m ws out⟩=
   some (.ret,⟨vs,H⟩)∧vs[8]?=some (.bp 2 0)∧vs[9]?=some (I (CQ m tag l a b (nth ws i)).2)∧H[2]?=some (.box [.t (.sl (ws.map World.e))])):=by
 unfold CQ Gb Ie
 have c1:=lM (nth ws i) hs
 have br:=oH (nth ws i).tags tag (by have:=hs.1;omega)
 have s3:=hs.2.2 _ (ae (l:=(nth ws i).whr) (j:=(b6 (nth ws i).tags tag).toNat) (by omega))
 have se:=abI h (nth (nth ws i).whr (b6 (nth ws i).tags tag).toNat) s3 l hp a b
 generalize hx:nth ws i=x at*
 obtain⟨tags,whr⟩:=x
 simp only at c1 br s3 se hb hb2 ⊢
 generalize b6 tags tag=k at*
 generalize hy:nth whr k.toNat=y at*
 generalize BR m y l a b=r at*
 obtain⟨⟨time,frm⟩,e⟩:=r
 obtain⟨t0,f0⟩:=y
 obtain⟨s1,s2, -⟩:=hs
 simp only at s1 s2 s3 se ⊢
 constructor
 · rintro ⟨n6,n8⟩
   by_cases e43:e=43
   · subst e43
     simp(disch:=omega)only[go_sem,K.eM,↓reduceIte,yG,hx,hy,c1,br,se,Nat.reduceAdd,Nat.reduceSub]
   · by_cases e0:e=0
     · subst e0
       simp(disch:=omega)only[go_sem,K.eM,↓reduceIte,yG,hx,hy,c1,br,se,Nat.reduceAdd,Nat.reduceSub]
     · simp(disch:=omega)only[go_sem,K.eM,↓reduceIte,yG,hx,hy,c1,br,se,Nat.reduceAdd,Nat.reduceSub]
 · rintro (h68 | h68)<;>subst h68
   · simp(disch:=omega)only[go_sem,K.eM,↓reduceIte,yG,hx,hy,c1,br,se,Nat.reduceAdd,Nat.reduceSub]
     exact⟨_,_,rfl,rfl,rfl,rfl⟩
   · simp(disch:=omega)only[go_sem,K.eM,↓reduceIte,yG,hx,hy,c1,br,se,Nat.reduceAdd,Nat.reduceSub]
     exact⟨_,_,rfl,rfl,rfl,rfl⟩
def Gd(m:aM)(tag:Int)(l:List Int)(a b:Int)(ws:List World)(j:Nat):Bool:=decide ((CQ m tag l a b (nth ws j)).2=6∨(CQ m tag l a b (nth ws j)).2=8)
def tS(m:aM)(b:Bel)(tag:Int)(l:List Int)(a c:Int):Bel×Int:=
 if oS m b tag≠0 then(b,oS m b tag)else match (List.range b.worlds.length).find? (Gd m tag l a c b.worlds)with
  | some i=>(b,(CQ m tag l a c (nth b.worlds i)).2)
  | none=>if(oT m tag l a c b.worlds b.worlds.length).length=0 then(b,43)else(⟨oT m tag l a c b.worlds b.worlds.length⟩,0)
theorem On{m:aM}(h:m.ok)(b:Bel)(hs:b.sz)(tag:Int)(l:List Int)(hp:l.length≤1000000)(a c:Int):
 aE 0 N.ir [.t m.e,.t b.e,I tag,.t (tL l),I a,I c] []=some (.tup [.t (tS m b tag l a c).1.e,I (tS m b tag l a c).2],[]):=by
 refine ak K.vO rfl ?_
 have cb:=yE b hs
 have bo:=JJ h b hs tag
 unfold tS
 by_cases e0:oS m b tag=0
 · have hb:rG m b=true:=by
    unfold oS at e0
    by_cases hb:rG m b=true
    · exact hb
    · rw[if_pos (by simpa using hb)]at e0;omega
   have ht:0≤b6 (nth b.worlds 0).tags tag:=by
    unfold oS at e0
    rw[if_neg (by simp[hb])]at e0
    by_cases ht:b6 (nth b.worlds 0).tags tag<0
    · rw[if_pos ht]at e0;omega
    · omega
   have bb:∀i,i<b.worlds.length→0≤b6 (nth b.worlds i).tags tag∧b6 (nth b.worlds i).tags tag<(nth b.worlds i).whr.length:=fun i hi=>by
    obtain⟨-, -, -, -,h5⟩:=fK hb
    obtain⟨w1,w2, -⟩:=hU (h5 i hi)
    have b1:=Bf hb ht (i:=i) hi
    have b2:=(yD b1).1
    exact⟨b1,by omega⟩
   rw[e0]at bo
   obtain⟨ws⟩:=b
   obtain⟨s1,s2⟩:=hs
   simp only at s1 s2 bb cb bo ⊢
   have ln:=xH m tag l a c ws
   have loop:=fun x y z u v w p q r=>xy (gc:=true) (dead:=[0,1,9,10,13,14,15,16,17,18]) (c:=K.eM)
    (vs:=[x,y,I tag,.t (tL l),I a,I c,.bp 0 0,.bp 1 0,.bp 2 0,z,u,.bp 3 0,I 0,v,w,p,q,r,.und]) (H:=yG m ws [])
    (fun j=>⟨[.und,.und,I tag,.t (tL l),I a,I c,.bp 0 0,.bp 1 0,.bp 2 0,.und,.und,.bp 3 0,I j,.und,.und,.und,.und,.und,.und],yG m ws (oT m tag l a c ws j)⟩) ws.length (Gd m tag l a c ws)
    (fun j q=>q.1= .ret∧q.2.vs[8]?=some (.bp 2 0)∧q.2.vs[9]?=some (I (CQ m tag l a c (nth ws j)).2)∧q.2.H[2]?=some (.box [.t (.sl (ws.map World.e))]))
    (.exit 0,⟨[.und,.und,I tag,.t (tL l),I a,I c,.bp 0 0,.bp 1 0,.bp 2 0,.und,.und,.bp 3 0,I ws.length,.und,.und,.und,.und,.und,.und],yG m ws (oT m tag l a c ws ws.length)⟩) rfl
    (fun j hj hq=>by
     have:=ln j
     have hq:¬((CQ m tag l a c (nth ws j)).2=6∨(CQ m tag l a c (nth ws j)).2=8):=by simpa [Gd]using hq
     obtain⟨b1,b2⟩:=bb j hj
     exact(Gc h ws s1 tag l hp a c j hj (s2 _ (ae hj)) b1 b2 (oT m tag l a c ws j) (by omega)).1 (by omega))
    (fun j hj hq=>by
     have:=ln j
     have hq:(CQ m tag l a c (nth ws j)).2=6∨(CQ m tag l a c (nth ws j)).2=8:=by simpa [Gd]using hq
     obtain⟨b1,b2⟩:=bb j hj
     obtain⟨vs,H,q1,q2⟩:=(Gc h ws s1 tag l hp a c j hj (s2 _ (ae hj)) b1 b2 (oT m tag l a c ws j) (by omega)).2 hq
     exact⟨_,q1,by simp,rfl,q2⟩)
    (by
     have:=ln ws.length
     generalize oT m tag l a c ws ws.length=L at*
     simp(disch:=omega)only[go_sem,K.eM,↓reduceIte,yG,Nat.reduceAdd,Nat.reduceSub]) (by simp)
   have loop':∀x y z u v w p q r,_∨_:=loop
   clear loop
   rcases loop' (.t m.e) (.t (Bel.e ⟨ws⟩)) (I 0) (I 0) .und .und .und .und .und with⟨e1,e2⟩ | ⟨j,⟨x,vs,H⟩,e1,e2,e3,e4,e5,e6⟩
   · have e2:exS aE K.sX _=_:=e2
     simp only[yG,List.map_nil,List.length_nil]at e2
     have:=ln ws.length
     rw[e1]
     generalize oT m tag l a c ws ws.length=L at*
     by_cases L0:L.length=0
     · simp(disch:=omega)only[go_sem,K.ir,↓reduceIte,cb,bo,e2,L0,Nat.reduceAdd,Nat.reduceSub,ne_eq,not_true_eq_false]
     · simp(disch:=omega)only[go_sem,K.ir,↓reduceIte,cb,bo,e2,L0,Nat.reduceAdd,Nat.reduceSub,ne_eq,not_true_eq_false]
   · have e2:exS aE K.sX _=_:=e2
     simp only[yG,List.map_nil,List.length_nil]at e2
     rw[e1]
     simp only at e3 e4 e5 e6
     subst e3
     simp(disch:=omega)only[go_sem,K.ir,↓reduceIte,cb,bo,e2,Nat.reduceAdd,Nat.reduceSub,ne_eq,not_true_eq_false,e4,e5,e6,List.take_zero]
 · obtain⟨ws⟩:=b
   simp(disch:=omega)only[go_sem,K.ir,↓reduceIte,cb,bo,e0,ne_eq,not_false_eq_true]
def CR(m:aM)(tag:Int)(l:List Int)(a b bl:Int)(x:World):Wh×Int:=CC m (nth x.whr (b6 x.tags tag).toNat) l a b bl
def Ig(tag:Int)(r:Wh×Int)(x:World)(out:List World):List World:=out++[if r.2=0 then Ie tag x r.1 else x]
def qy(m:aM)(tag:Int)(l:List Int)(a b bl:Int)(ws:List World):Nat→List World
 | 0=>[]
 | j+1=>Ig tag (CR m tag l a b bl (nth ws j)) (nth ws j) (qy m tag l a b bl ws j)
theorem xI(m:aM)(tag:Int)(l:List Int)(a b bl:Int)(ws:List World):∀j,(qy m tag l a b bl ws j).length=j
 | 0=>rfl
 | j+1=>by
   simp only[qy,Ig,List.length_append,xI m tag l a b bl ws j,List.length_singleton]
theorem Ge{m:aM}(h:m.ok)(ws:List World)(hw:ws.length≤1000000)(tag:Int)(l:List Int)(hp:l.length≤1000000)(a b bl:Int)(i:Nat)(hi:i<ws.length)(hs:(nth ws i).sz)
 (hb:0≤b6 (nth ws i).tags tag) (hb2:b6 (nth ws i).tags tag<(nth ws i).whr.length) (out:List World) (ho:out.length≤1000000):
 ((CR m tag l a b bl (nth ws i)).2≠6∧(CR m tag l a b bl (nth ws i)).2≠8→fG true [0,1,10,11,14,15,16,17] 5 (exS aE K.dn ⟨[.und,.und,I tag,.t (tL l),I a,I b,I bl,.bp 0 0,.bp 1 0,.bp 2 0,.und,.und,.bp 3 0,I i,.und,.und,.und,.und],yG m ws out⟩)=
   some ⟨[.und,.und,I tag,.t (tL l),I a,I b,I bl,.bp 0 0,.bp 1 0,.bp 2 0,.und,.und,.bp 3 0,I (i+1),.und,.und,.und,.und],yG m ws (Ig tag (CR m tag l a b bl (nth ws i)) (nth ws i) out)⟩)∧
 ((CR m tag l a b bl (nth ws i)).2=6∨(CR m tag l a b bl (nth ws i)).2=8→∃vs H,exS aE K.dn ⟨[.und,.und,I tag,.t (tL l),I a,I b,I bl,.bp 0 0,.bp 1 0,.bp 2 0,.und,.und,.bp 3 0,I i,.und,.und,.und,.und],yG m ws out⟩=
   some (.ret,⟨vs,H⟩)∧vs[9]?=some (.bp 2 0)∧vs[10]?=some (I (CR m tag l a b bl (nth ws i)).2)∧H[2]?=some (.box [.t (.sl (ws.map World.e))])):=by
 unfold CR Ig Ie
 have c1:=lM (nth ws i) hs
 have br:=oH (nth ws i).tags tag (by have:=hs.1;omega)
 have s3:=hs.2.2 _ (ae (l:=(nth ws i).whr) (j:=(b6 (nth ws i).tags tag).toNat) (by omega))
 have se:=abJ h (nth (nth ws i).whr (b6 (nth ws i).tags tag).toNat) s3 l hp a b bl
 generalize hx:nth ws i=x at*
 obtain⟨tags,whr⟩:=x
 simp only at c1 br s3 se hb hb2 ⊢
 generalize b6 tags tag=k at*
 generalize hy:nth whr k.toNat=y at*
 generalize CC m y l a b bl=r at*
 obtain⟨⟨time,frm⟩,e⟩:=r
 obtain⟨t0,f0⟩:=y
 obtain⟨s1,s2, -⟩:=hs
 simp only at s1 s2 s3 se ⊢
 constructor
 · rintro ⟨n6,n8⟩
   by_cases e0:e=0
   · subst e0
     simp(disch:=omega)only[go_sem,K.dn,↓reduceIte,yG,hx,hy,c1,br,se,Nat.reduceAdd,Nat.reduceSub]
   · simp(disch:=omega)only[go_sem,K.dn,↓reduceIte,yG,hx,hy,c1,br,se,Nat.reduceAdd,Nat.reduceSub]
 · rintro (h68 | h68)<;>subst h68
   · simp(disch:=omega)only[go_sem,K.dn,↓reduceIte,yG,hx,hy,c1,br,se,Nat.reduceAdd,Nat.reduceSub]
     exact⟨_,_,rfl,rfl,rfl,rfl⟩
   · simp(disch:=omega)only[go_sem,K.dn,↓reduceIte,yG,hx,hy,c1,br,se,Nat.reduceAdd,Nat.reduceSub]
     exact⟨_,_,rfl,rfl,rfl,rfl⟩
def Gf(m:aM)(tag:Int)(l:List Int)(a b bl:Int)(ws:List World)(j:Nat):Bool:=decide ((CR m tag l a b bl (nth ws j)).2=6∨(CR m tag l a b bl (nth ws j)).2=8)
def tT(m:aM)(b:Bel)(tag:Int)(l:List Int)(a c bl:Int):Bel×Int:=
 if oS m b tag≠0 then(b,oS m b tag)else match (List.range b.worlds.length).find? (Gf m tag l a c bl b.worlds)with
  | some i=>(b,(CR m tag l a c bl (nth b.worlds i)).2)
  | none=>(⟨qy m tag l a c bl b.worlds b.worlds.length⟩,0)
theorem Ih{m:aM}{b:Bel}{tag:Int}(e0:oS m b tag=0):rG m b=true∧∀i,i<b.worlds.length→0≤b6 (nth b.worlds i).tags tag∧b6 (nth b.worlds i).tags tag<(nth b.worlds i).whr.length:=by
 have hb:rG m b=true:=by
  unfold oS at e0
  by_cases hb:rG m b=true
  · exact hb
  · rw[if_pos (by simpa using hb)]at e0;omega
 have ht:0≤b6 (nth b.worlds 0).tags tag:=by
  unfold oS at e0
  rw[if_neg (by simp[hb])]at e0
  by_cases ht:b6 (nth b.worlds 0).tags tag<0
  · rw[if_pos ht]at e0;omega
  · omega
 refine⟨hb,fun i hi=>?_⟩
 obtain⟨-, -, -, -,h5⟩:=fK hb
 obtain⟨w1,w2, -⟩:=hU (h5 i hi)
 have b1:=Bf hb ht (i:=i) hi
 have b2:=(yD b1).1
 exact⟨b1,by omega⟩
theorem Oo{m:aM}(h:m.ok)(b:Bel)(hs:b.sz)(tag:Int)(l:List Int)(hp:l.length≤1000000)(a c bl:Int):
 aE 0 N.ef [.t m.e,.t b.e,I tag,.t (tL l),I a,I c,I bl] []=some (.tup [.t (tT m b tag l a c bl).1.e,I (tT m b tag l a c bl).2],[]):=by
 refine ak K.pG rfl ?_
 have cb:=yE b hs
 have bo:=JJ h b hs tag
 unfold tT
 by_cases e0:oS m b tag=0
 · obtain⟨hb,bb⟩:=Ih e0
   rw[e0]at bo
   obtain⟨ws⟩:=b
   obtain⟨s1,s2⟩:=hs
   simp only at s1 s2 bb cb bo ⊢
   have ln:=xI m tag l a c bl ws
   have loop:=fun x y u v w p q r=>xy (gc:=true) (dead:=[0,1,10,11,14,15,16,17]) (c:=K.dn)
    (vs:=[x,y,I tag,.t (tL l),I a,I c,I bl,.bp 0 0,.bp 1 0,.bp 2 0,u,v,.bp 3 0,I 0,w,p,q,r]) (H:=yG m ws [])
    (fun j=>⟨[.und,.und,I tag,.t (tL l),I a,I c,I bl,.bp 0 0,.bp 1 0,.bp 2 0,.und,.und,.bp 3 0,I j,.und,.und,.und,.und],yG m ws (qy m tag l a c bl ws j)⟩) ws.length (Gf m tag l a c bl ws)
    (fun j q=>q.1= .ret∧q.2.vs[9]?=some (.bp 2 0)∧q.2.vs[10]?=some (I (CR m tag l a c bl (nth ws j)).2)∧q.2.H[2]?=some (.box [.t (.sl (ws.map World.e))]))
    (.exit 0,⟨[.und,.und,I tag,.t (tL l),I a,I c,I bl,.bp 0 0,.bp 1 0,.bp 2 0,.und,.und,.bp 3 0,I ws.length,.und,.und,.und,.und],yG m ws (qy m tag l a c bl ws ws.length)⟩) rfl
    (fun j hj hq=>by
     have:=ln j
     have hq:¬((CR m tag l a c bl (nth ws j)).2=6∨(CR m tag l a c bl (nth ws j)).2=8):=by simpa [Gf]using hq
     obtain⟨b1,b2⟩:=bb j hj
     exact(Ge h ws s1 tag l hp a c bl j hj (s2 _ (ae hj)) b1 b2 (qy m tag l a c bl ws j) (by omega)).1 (by omega))
    (fun j hj hq=>by
     have:=ln j
     have hq:(CR m tag l a c bl (nth ws j)).2=6∨(CR m tag l a c bl (nth ws j)).2=8:=by simpa [Gf]using hq
     obtain⟨b1,b2⟩:=bb j hj
     obtain⟨vs,H,q1,q2⟩:=(Ge h ws s1 tag l hp a c bl j hj (s2 _ (ae hj)) b1 b2 (qy m tag l a c bl ws j) (by omega)).2 hq
     exact⟨_,q1,by simp,rfl,q2⟩)
    (by
     have:=ln ws.length
     generalize qy m tag l a c bl ws ws.length=L at*
     simp(disch:=omega)only[go_sem,K.dn,↓reduceIte,yG,Nat.reduceAdd,Nat.reduceSub]) (by simp)
   rcases loop (.t m.e) (.t (Bel.e ⟨ws⟩)) (I 0) (I 0) .und .und .und .und with⟨e1,e2⟩ | ⟨j,⟨x,vs,H⟩,e1,e2,e3,e4,e5,e6⟩
   · have e2:exS aE K.ow _=_:=e2
     simp only[yG,List.map_nil,List.length_nil]at e2
     have:=ln ws.length
     rw[e1]
     generalize qy m tag l a c bl ws ws.length=L at*
     simp(disch:=omega)only[go_sem,K.ef,↓reduceIte,cb,bo,e2,Nat.reduceAdd,Nat.reduceSub,ne_eq,not_true_eq_false]
   · have e2:exS aE K.ow _=_:=e2
     simp only[yG,List.map_nil,List.length_nil]at e2
     rw[e1]
     simp only at e3 e4 e5 e6
     subst e3
     simp(disch:=omega)only[go_sem,K.ef,↓reduceIte,cb,bo,e2,Nat.reduceAdd,Nat.reduceSub,ne_eq,not_true_eq_false,e4,e5,e6,List.take_zero]
 · obtain⟨ws⟩:=b
   simp(disch:=omega)only[go_sem,K.ef,↓reduceIte,cb,bo,e0,ne_eq,not_false_eq_true]
theorem xJ{gc:Bool}{dead:List Nat}{c:C}{vs:List D}{H:ai}(P:Nat→St→Prop)(n:Nat)(Q:Ex×St→Prop)(h0:P 0 ⟨j7 dead vs,H⟩)
 (hs:∀j st,j<n→P j st→∃st',fG gc dead st.H.length (exS aE c st)=some st'∧P (j+1) st')
 (he:∀st,P n st→∃q,exS aE c st=some q∧q.1≠ .normal∧Q q):∃q,exS aE (.loop gc dead c) ⟨vs,H⟩=some q∧Q q:=by
 have key:∀(k j:Nat) (st:St),j+k=n→P j st→∃q,nV gc dead (exS aE c) st=some q∧Q q:=by
  intro k
  induction k with
  | zero=>
    intro j st hj hp
    obtain⟨q,h1,h2,h3⟩:=he st (by rw[← hj];exact hp)
    exact⟨q,cN h1 h2,h3⟩
  | succ k ih=>
    intro j st hj hp
    obtain⟨st',h1,h2⟩:=hs j st (by omega) hp
    obtain⟨q,h3,h4⟩:=ih (j+1) st' (by omega) h2
    exact⟨q,jO h1 h3,h4⟩
 exact key n 0 _ (by omega) h0
abbrev ints(l:List Int):List D:=(l.map (T.int .i64)).map .t
abbrev whs(l:List Wh):List D:=(l.map Wh.e).map .t
def cT(out:List World)(x:World):Nat:=match (List.range out.length).find? (fun k=> !tF (nth out k).tags x.tags)with
 | some k=>k
 | none=>out.length
theorem xK(out:List World)(x:World):cT out x≤out.length:=by
 unfold cT
 split
 · rename_i k h;exact Nat.le_of_lt (AT h).1
 · exact Nat.le_refl _
def jU(a b:List Wh):Nat→List Wh
 | 0=>a
 | p+1=>(jU a b p).set p (jS (nth a p) (nth b p)).1
theorem i4(a b:List Wh):∀p,(jU a b p).length=a.length
 | 0=>rfl
 | p+1=>by simp only[jU,List.length_set,i4 a b p]
theorem Bg(a b:List Wh):∀p q,p≤q→nth (jU a b p) q=nth a q
 | 0,q,_=>rfl
 | p+1,q,h=>by
   have e:nth ((jU a b p).set p (jS (nth a p) (nth b p)).1) q=nth (jU a b p) q:=by
    unfold nth;rw[List.getD_eq_getElem?_getD,List.getElem?_set_ne (by omega),←List.getD_eq_getElem?_getD]
   simp only[jU,e]
   exact Bg a b p q (by omega)
def iM(a b:List Wh):List Wh:=jU a b (min a.length b.length)
def i5(out:List World)(x:World):List World:=
 if cT out x<out.length∧(nth out (cT out x)).tags=x.tags then out.set (cT out x) ⟨x.tags,iM (nth out (cT out x)).whr x.whr⟩
 else out.take (cT out x)++[x]++out.drop (cT out x)
def o6(l:List World):Nat→List World
 | 0=>[]
 | j+1=>i5 (o6 l j) (nth l j)
def lY(l:List World):List World:=o6 l l.length
structure Rp(H:ai)(id:Nat)(es:List D)(fa fb:Nat→Nat)(out:List World):Prop where
 arr:H[id]?=some (.arr 2 false 0 es)
 len:es.length=out.length
 el:∀j,j<out.length→es[j]?=some (.agg [.ref (fa j) 0 (nth out j).tags.length,.ref (fb j) 0 (nth out j).whr.length])
 ha:∀j,j<out.length→H[fa j]?=some (.arr 1 false 0 (ints (nth out j).tags))
 hb:∀j,j<out.length→H[fb j]?=some (.arr 2 false 0 (whs (nth out j).whr))
 na:∀j,j<out.length→fa j≠id
 nb:∀j,j<out.length→fb j≠id
 nab:∀i j,i<out.length→j<out.length→fa i≠fb j
 nbb:∀i j,i<out.length→j<out.length→i≠j→fb i≠fb j
def Rep(H:ai)(v:D)(out:List World):Prop:=(v= .nil∧out=[])∨∃id es fa fb,v= .ref id 0 out.length∧0<out.length∧Rp H id es fa fb out
theorem WL(l:List World)(i:Nat)(hi:i<l.length)(out:List World)(ho:out.length≤1000000)(hso:∀x∈out,x.sz)(hsx:(nth l i).sz)(H:ai)(v:D)(hr:Rep H v out)(a b:D):
 exS aE K.qQ ⟨[.t (.sl (l.map World.e)),a,v,I i,I 0,b],H⟩=some (.exit 2,⟨[.t (.sl (l.map World.e)),.und,v,I i,I (cT out (nth l i)),.und],H⟩):=by
 rcases hr with⟨rfl,rfl⟩ | ⟨id,es,fa,fb,rfl,h0,hr⟩
 · have:cT [] (nth l i)=0:=rfl
   rw[this]
   refine yq (cN ?_ (by simp))
   simp(disch:=omega)only[go_sem,K.kc,↓reduceIte,Nat.reduceAdd,Nat.reduceSub]
 · have key:exS aE K.qQ ⟨[.t (.sl (l.map World.e)),a,.ref id 0 out.length,I i,I 0,b],H⟩=some (match (List.range out.length).find? (fun k=> !tF (nth out k).tags (nth l i).tags)with
    | some k=>(.exit 2,⟨[.t (.sl (l.map World.e)),.und,.ref id 0 out.length,I i,I k,.und],H⟩)
    | none=>(.exit 2,⟨[.t (.sl (l.map World.e)),.und,.ref id 0 out.length,I i,I out.length,.und],H⟩)):=by
    refine cE (fun k=>⟨[.t (.sl (l.map World.e)),.und,.ref id 0 out.length,I i,I k,.und],H⟩) out.length _ _ _ rfl ?_ ?_ ?_ (by simp)
    · intro k hk hp
      have hp:tF (nth out k).tags (nth l i).tags=true:=by simpa using hp
      have s1:=(hso _ (ae hk)).1
      have s2:=hsx.1
      have ls:=H4 (nth out k).tags (nth l i).tags s1 s2
      have e1:=hr.arr
      have e2:=hr.len
      have e3:=hr.el k hk
      have e4:=hr.ha k hk
      generalize nth out k=y at*
      obtain⟨ta,wa⟩:=y
      generalize hx:nth l i=x at*
      obtain⟨tb,wb⟩:=x
      simp only at s1 s2 ls e3 e4 hp
      simp(disch:=omega)only[go_sem,K.kc,↓reduceIte,Nat.reduceAdd,Nat.reduceSub,e1,e2,e3,e4,hx,ls,hp]
      done
    · intro k hk hp
      have hp:tF (nth out k).tags (nth l i).tags=false:=by simpa using hp
      have s1:=(hso _ (ae hk)).1
      have s2:=hsx.1
      have ls:=H4 (nth out k).tags (nth l i).tags s1 s2
      have e1:=hr.arr
      have e2:=hr.len
      have e3:=hr.el k hk
      have e4:=hr.ha k hk
      generalize nth out k=y at*
      obtain⟨ta,wa⟩:=y
      generalize hx:nth l i=x at*
      obtain⟨tb,wb⟩:=x
      simp only at s1 s2 ls e3 e4 hp
      refine⟨?_,by simp⟩
      simp(disch:=omega)only[go_sem,K.kc,↓reduceIte,Nat.reduceAdd,Nat.reduceSub,e1,e2,e3,e4,hx,ls,hp]
      done
    · simp(disch:=omega)only[go_sem,K.kc,↓reduceIte,Nat.reduceAdd,Nat.reduceSub]
   rw[key]
   unfold cT
   cases (List.range out.length).find? (fun k=> !tF (nth out k).tags (nth l i).tags)<;>rfl
theorem WM(l:List World)(i:Nat)(hi:i<l.length)(out:List World)(ho:out.length≤1000000)(hso:∀x∈out,x.sz)(hsx:(nth l i).sz)(H:ai)(id:Nat)(es:List D)(fa fb:Nat→Nat)
 (hr:Rp H id es fa fb out) (k:Nat) (hk:k<out.length) (a:D):
 exS aE K.xk ⟨[.t (.sl (l.map World.e)),a,.ref id 0 out.length,I i,I k,I 0],H⟩=
 some (.exit 4,⟨[.t (.sl (l.map World.e)),.und,.ref id 0 out.length,I i,I k,I ((min (nth out k).whr.length (nth l i).whr.length:Nat):Int)],H.set (fb k) (.arr 2 false 0 (whs (iM (nth out k).whr (nth l i).whr)))⟩):=by
 have e1:=hr.arr
 have e2:=hr.len
 have e3:=hr.el k hk
 have e5:=hr.hb k hk
 have e6:=hr.nb k hk
 have e7:=gM e5
 obtain⟨s1,s2,s3⟩:=hso _ (ae hk)
 obtain⟨x1,x2,x3⟩:=hsx
 generalize nth out k=y at*
 obtain⟨ta,wa⟩:=y
 generalize hx:nth l i=x at*
 obtain⟨tb,wb⟩:=x
 simp only at s1 s2 s3 x1 x2 x3 e3 e5 ⊢
 have jl:=i4 wa wb
 have q1:∀o,(H.set (fb k) o)[id]?=H[id]?:=fun o=>bg e6
 have q2:∀o,(H.set (fb k) o)[fb k]?=some o:=fun o=>de e7
 refine bR (fun p=>⟨[.t (.sl (l.map World.e)),.und,.ref id 0 out.length,I i,I k,I p],H.set (fb k) (.arr 2 false 0 (whs (jU wa wb p)))⟩) (min wa.length wb.length) ?_ ?_ ?_ (by simp)
 · show(⟨_,H⟩:St)=⟨_,H.set (fb k) (.arr 2 false 0 (whs wa))⟩
   rw[Dy e5];rfl
 · intro p hp
   have jp:=jl p
   have jn:=Bg wa wb p p (Nat.le_refl _)
   have jo:=VA (nth wa p) (nth wb p) (s3 _ (ae (by omega)))
   have hj:jU wa wb (p+1)=(jU wa wb p).set p (jS (nth wa p) (nth wb p)).1:=rfl
   rw[hj]
   generalize jU wa wb p=J at*
   generalize hu:nth wb p=u at*
   generalize nth wa p=w at*
   generalize jS w u=r at*
   obtain⟨⟨rt,rf⟩,re⟩:=r
   simp only at jo ⊢
   simp(disch:=omega)only[go_sem,K.mP,↓reduceIte,Nat.reduceAdd,Nat.reduceSub,q1,q2,e1,e2,e3,uv,hx,hu,jn,jo]
 · have jp:=jl (min wa.length wb.length)
   have hj:iM wa wb=jU wa wb (min wa.length wb.length):=rfl
   rw[hj]
   generalize jU wa wb (min wa.length wb.length)=J at*
   by_cases c:wa.length≤wb.length
   · simp(disch:=omega)only[go_sem,K.mP,↓reduceIte,Nat.reduceAdd,Nat.reduceSub,q1,q2,e1,e2,e3,uv,hx,Nat.min_eq_left c]
   · have hm:min wa.length wb.length=wb.length:=by omega
     simp(disch:=omega)only[go_sem,K.mP,↓reduceIte,Nat.reduceAdd,Nat.reduceSub,q1,q2,e1,e2,e3,uv,hx,hm]
theorem zr{sz:Nat}{l:List D}(h:∀e∈l,e.cells.length=sz):cY sz l=true:=by
 cases l with
 | nil=>rfl
 | cons d r=>rw[DJ,gk];exact h d List.mem_cons_self
theorem Rp.size{H:ai}{id:Nat}{es:List D}{fa fb:Nat→Nat}{out:List World}(hr:Rp H id es fa fb out):∀e∈es,e.cells.length=2:=by
 intro e he
 obtain⟨j,hj⟩:=List.mem_iff_getElem?.1 he
 have hl:=(List.getElem?_eq_some_iff.1 hj).1
 rw[hr.el j (by rw[← hr.len];exact hl)]at hj
 cases hj;rfl
theorem Oq{α:Type}(l:List α)(k:Nat)(hk:k≤l.length)(x:α)(j:Nat):(l.take k++[x]++l.drop k)[j]?=if j<k then l[j]? else if j=k then some x else l[j-1]?:=by
 have hl:(l.take k).length=k:=by rw[List.length_take];omega
 rw[List.append_assoc]
 by_cases h1:j<k
 · rw[if_pos h1,List.getElem?_append_left (by omega),List.getElem?_take_of_lt h1]
 · rw[if_neg h1,List.getElem?_append_right (by omega),hl]
   by_cases h2:j=k
   · rw[if_pos h2,h2,Nat.sub_self];rfl
   · rw[if_neg h2,List.getElem?_append_right (by simp;omega)]
     simp only[List.length_singleton,List.getElem?_drop]
     congr 1;omega
theorem Ii{α:Type} [Dat α](l:List α)(k:Nat)(hk:k≤l.length)(x:α)(j:Nat):nth (l.take k++[x]++l.drop k) j=if j<k then nth l j else if j=k then x else nth l (j-1):=by
 unfold nth
 rw[List.getD_eq_getElem?_getD,Oq l k hk]
 split
 · rw[List.getD_eq_getElem?_getD]
 · split
   · rfl
   · rw[List.getD_eq_getElem?_getD]
theorem p7{α:Type} [Dat α](l:List α)(k:Nat)(hk:k<l.length)(x:α)(j:Nat):nth (l.set k x) j=if j=k then x else nth l j:=by
 unfold nth
 rw[List.getD_eq_getElem?_getD]
 by_cases h:j=k
 · rw[if_pos h,h,List.getElem?_set_self hk];rfl
 · rw[if_neg h,List.getElem?_set_ne (fun e=>h e.symm),List.getD_eq_getElem?_getD]
theorem Rp.ins{H:ai}{id:Nat}{es:List D}{fa fb:Nat→Nat}{out:List World}(hr:Rp H id es fa fb out){k:Nat}(hk:k≤out.length)(x:World)(o:Obj):
 Rp (H++[.arr 2 false 0 (es.take k++[.agg [.ref (H.length+1) 0 x.tags.length,.ref (H.length+2) 0 x.whr.length]]++es.drop k),.arr 1 false 0 (ints x.tags),.arr 2 false 0 (whs x.whr),o]) H.length
  (es.take k++[.agg [.ref (H.length+1) 0 x.tags.length,.ref (H.length+2) 0 x.whr.length]]++es.drop k)
  (fun j=>if j<k then fa j else if j=k then H.length+1 else fa (j-1)) (fun j=>if j<k then fb j else if j=k then H.length+2 else fb (j-1)) (out.take k++[x]++out.drop k):=by
 have ol:(out.take k++[x]++out.drop k).length=out.length+1:=by
  rw[List.length_append,List.length_append,List.length_take,List.length_drop,List.length_singleton];omega
 have e2:=hr.len
 have ba:∀j,j<out.length→fa j<H.length:=fun j hj=>gM (hr.ha j hj)
 have bb:∀j,j<out.length→fb j<H.length:=fun j hj=>gM (hr.hb j hj)
 refine⟨cF,?_,?_,?_,?_,?_,?_,?_,?_⟩
 · rw[ol,List.length_append,List.length_append,List.length_take,List.length_drop,List.length_singleton];omega
 · intro j hj
   rw[ol]at hj
   simp only[Oq es k (by omega),Ii out k hk]
   by_cases h1:j<k
   · simp only[if_pos h1];exact hr.el j (by omega)
   · by_cases h2:j=k
     · simp only[if_neg h1,if_pos h2]
     · simp only[if_neg h1,if_neg h2];exact hr.el (j-1) (by omega)
 · intro j hj
   rw[ol]at hj
   simp only[Ii out k hk]
   by_cases h1:j<k
   · simp only[if_pos h1];rw[dT (ba j (by omega))];exact hr.ha j (by omega)
   · by_cases h2:j=k
     · simp only[if_neg h1,if_pos h2];rw[fo];rfl
     · simp only[if_neg h1,if_neg h2];rw[dT (ba (j-1) (by omega))];exact hr.ha (j-1) (by omega)
 · intro j hj
   rw[ol]at hj
   simp only[Ii out k hk]
   by_cases h1:j<k
   · simp only[if_pos h1];rw[dT (bb j (by omega))];exact hr.hb j (by omega)
   · by_cases h2:j=k
     · simp only[if_neg h1,if_pos h2];rw[fo];rfl
     · simp only[if_neg h1,if_neg h2];rw[dT (bb (j-1) (by omega))];exact hr.hb (j-1) (by omega)
 · intro j hj
   rw[ol]at hj
   have b1:=ba j
   have b2:=ba (j-1)
   split
   · have:=b1 (by omega);omega
   · split
     · omega
     · have:=b2 (by omega);omega
 · intro j hj
   rw[ol]at hj
   have b1:=bb j
   have b2:=bb (j-1)
   split
   · have:=b1 (by omega);omega
   · split
     · omega
     · have:=b2 (by omega);omega
 · intro i j hi hj
   rw[ol]at hi hj
   have a1:=ba i
   have a2:=ba (i-1)
   have b1:=bb j
   have b2:=bb (j-1)
   by_cases h1:i<k
   · rw[if_pos h1]
     have:=a1 (by omega)
     by_cases h2:j<k
     · rw[if_pos h2];exact hr.nab i j (by omega) (by omega)
     · rw[if_neg h2]
       by_cases h3:j=k
       · rw[if_pos h3];omega
       · rw[if_neg h3];exact hr.nab i (j-1) (by omega) (by omega)
   · rw[if_neg h1]
     by_cases h4:i=k
     · rw[if_pos h4]
       split
       · have:=b1 (by omega);omega
       · split
         · omega
         · have:=b2 (by omega);omega
     · rw[if_neg h4]
       have:=a2 (by omega)
       by_cases h2:j<k
       · rw[if_pos h2];exact hr.nab (i-1) j (by omega) (by omega)
       · rw[if_neg h2]
         by_cases h3:j=k
         · rw[if_pos h3];omega
         · rw[if_neg h3];exact hr.nab (i-1) (j-1) (by omega) (by omega)
 · intro i j hi hj hne
   rw[ol]at hi hj
   have a1:=bb i
   have a2:=bb (i-1)
   have b1:=bb j
   have b2:=bb (j-1)
   by_cases h1:i<k
   · rw[if_pos h1]
     have:=a1 (by omega)
     by_cases h2:j<k
     · rw[if_pos h2];exact hr.nbb i j (by omega) (by omega) hne
     · rw[if_neg h2]
       by_cases h3:j=k
       · rw[if_pos h3];omega
       · rw[if_neg h3];exact hr.nbb i (j-1) (by omega) (by omega) (by omega)
   · rw[if_neg h1]
     by_cases h4:i=k
     · rw[if_pos h4]
       split
       · have:=b1 (by omega);omega
       · split
         · omega
         · have:=b2 (by omega);omega
     · rw[if_neg h4]
       have:=a2 (by omega)
       by_cases h2:j<k
       · rw[if_pos h2];exact hr.nbb (i-1) j (by omega) (by omega) (by omega)
       · rw[if_neg h2]
         by_cases h3:j=k
         · rw[if_pos h3];omega
         · rw[if_neg h3];exact hr.nbb (i-1) (j-1) (by omega) (by omega) (by omega)
theorem Rp.merge{H:ai}{id:Nat}{es:List D}{fa fb:Nat→Nat}{out:List World}(hr:Rp H id es fa fb out){k:Nat}(hk:k<out.length)(x:World)(ht:(nth out k).tags=x.tags)(hw:x.whr.length=(nth out k).whr.length):
 Rp (H.set (fb k) (.arr 2 false 0 (whs x.whr))) id es fa fb (out.set k x):=by
 have ol:(out.set k x).length=out.length:=List.length_set
 have nk:=hr.nb k hk
 have kl:=gM (hr.hb k hk)
 refine⟨by rw[bg nk];exact hr.arr,by rw[ol];exact hr.len,?_,?_,?_,by rw[ol];exact hr.na,by rw[ol];exact hr.nb,by rw[ol];exact hr.nab,by rw[ol];exact hr.nbb⟩
 · intro j hj
   rw[ol]at hj
   rw[hr.el j hj,p7 out k hk]
   by_cases h:j=k
   · rw[if_pos h,h,ht,hw]
   · rw[if_neg h]
 · intro j hj
   rw[ol]at hj
   rw[bg (fun e=>hr.nab j k hj hk e.symm),hr.ha j hj,p7 out k hk]
   by_cases h:j=k
   · rw[if_pos h,h,ht]
   · rw[if_neg h]
 · intro j hj
   rw[ol]at hj
   rw[p7 out k hk]
   by_cases h:j=k
   · rw[if_pos h,h,de kl]
   · rw[if_neg h,bg (fun e=>hr.nbb j k hj hk h e.symm)];exact hr.hb j hj
theorem CS(l:List World)(i:Nat)(hi:i<l.length)(hl:l.length≤1000000)(out:List World)(ho:out.length≤999999)(hso:∀x∈out,x.sz)(hsx:(nth l i).sz)(H:ai)(v:D)(hr:Rep H v out):
 ∃v' H',fG false [1,4,5] H.length (exS aE K.dN ⟨[.t (.sl (l.map World.e)),.und,v,I i,.und,.und],H⟩)=some ⟨[.t (.sl (l.map World.e)),.und,v',I (i+1),.und,.und],H'⟩∧Rep H' v' (i5 out (nth l i)):=by
 have l2:=WL l i hi out (by omega) hso hsx H v hr
 have kl:=xK out (nth l i)
 have cw:=lM (nth l i) hsx
 rcases hr with⟨rfl,rfl⟩ | ⟨id,es,fa,fb,rfl,h0,hr⟩
 · have k0:cT [] (nth l i)=0:=rfl
   rw[k0]at l2
   have t1:i5 [] (nth l i)=[nth l i]:=rfl
   rw[t1]
   generalize hx:nth l i=x at*
   obtain⟨tb,wb⟩:=x
   simp only at cw
   have run:fG false [1,4,5] H.length (exS aE K.dN ⟨[.t (.sl (l.map World.e)),.und,.nil,I i,.und,.und],H⟩)=
    some ⟨[.t (.sl (l.map World.e)),.und,.ref H.length 0 1,I (i+1),.und,.und],H++[.arr 2 false 0 [.agg [.ref (H.length+1) 0 tb.length,.ref (H.length+2) 0 wb.length]],.arr 1 false 0 (ints tb),.arr 2 false 0 (whs wb),.arr 2 false 0 [.agg [.ref (H.length+1) 0 tb.length,.ref (H.length+2) 0 wb.length]]]⟩:=by
    simp(disch:=omega)only[go_sem,K.dN,↓reduceIte,Nat.reduceAdd,Nat.reduceSub,l2,hx,cw,cF,fo,dF,n5,Nat.add_assoc]
   refine⟨_,_,run,.inr ⟨H.length,_,fun _=>H.length+1,fun _=>H.length+2,rfl,by simp,⟨cF,rfl,?_,?_,?_,?_,?_,?_,?_⟩⟩⟩
   all_goals skip
   · intro j hj;obtain rfl:j=0:=by simpa using hj
     rfl
   · intro j hj;obtain rfl:j=0:=by simpa using hj
     rw[fo];rfl
   · intro j hj;obtain rfl:j=0:=by simpa using hj
     rw[fo];rfl
   · intro j hj;omega
   · intro j hj;omega
   · intro i j hi hj;omega
   · intro i j hi hj hne
     have h1:i=0:=by simpa using hi
     have h2:j=0:=by simpa using hj
     omega
 · have e1:=hr.arr
   have e2:=hr.len
   have e7:=gM e1
   by_cases c:cT out (nth l i)<out.length∧(nth out (cT out (nth l i))).tags=(nth l i).tags
   · obtain⟨ck,ct⟩:=c
     have l3:=WM l i hi out (by omega) hso hsx H id es fa fb hr (cT out (nth l i)) ck
     have s1:=(hso _ (ae ck)).1
     have sm:=tu (nth out (cT out (nth l i))).tags (nth l i).tags (by omega)
     have t1:i5 out (nth l i)=out.set (cT out (nth l i)) ⟨(nth l i).tags,iM (nth out (cT out (nth l i))).whr (nth l i).whr⟩:=by unfold i5;rw[if_pos ⟨ck,ct⟩]
     rw[t1]
     simp only[ct,decide_true]at sm
     generalize cT out (nth l i)=k at*
     have e3:=hr.el k ck
     have e4:=hr.ha k ck
     have mg:=hr.merge ck ⟨(nth l i).tags,iM (nth out k).whr (nth l i).whr⟩ ct (i4 _ _ _)
     refine⟨.ref id 0 out.length,_,?_,.inr ⟨id,es,fa,fb,by rw[List.length_set],by rw[List.length_set];omega,mg⟩⟩
     generalize nth out k=y at*
     obtain⟨ta,wa⟩:=y
     simp only at ct
     subst ct
     generalize hx:nth l i=x at*
     obtain⟨tb,wb⟩:=x
     simp only at s1 sm e3 e4 cw l3 ⊢
     simp(disch:=omega)only[go_sem,K.dN,↓reduceIte,Nat.reduceAdd,Nat.reduceSub,l2,l3,hx,cw,sm,e1,e2,e3,e4]
   · have t1:i5 out (nth l i)=out.take (cT out (nth l i))++[nth l i]++out.drop (cT out (nth l i)):=by unfold i5;rw[if_neg c]
     rw[t1]
     generalize cT out (nth l i)=k at*
     have hs1:cY 2 (es.take k)=true:=zr fun e he=>hr.size e (List.mem_of_mem_take he)
     have hs2:cY 2 (es.drop k)=true:=zr fun e he=>hr.size e (List.mem_of_mem_drop he)
     have hs3:(es.drop k).take (out.length-k)=es.drop k:=List.take_of_length_le (by simp[e2])
     have hs4:(es.take k).length=k:=by rw[List.length_take];omega
     have hs5:(es.drop k).length=out.length-k:=by rw[List.length_drop,e2]
     have hs6:k+(1+(out.length-k))=out.length+1:=by omega
     have s2:=hsx.1
     have run:fG false [1,4,5] H.length (exS aE K.dN ⟨[.t (.sl (l.map World.e)),.und,.ref id 0 out.length,I i,.und,.und],H⟩)=
      some ⟨[.t (.sl (l.map World.e)),.und,.ref H.length 0 (out.length+1),I (i+1),.und,.und],H++[.arr 2 false 0 (es.take k++[.agg [.ref (H.length+1) 0 (nth l i).tags.length,.ref (H.length+2) 0 (nth l i).whr.length]]++es.drop k),.arr 1 false 0 (ints (nth l i).tags),.arr 2 false 0 (whs (nth l i).whr),.arr 2 false 0 [.agg [.ref (H.length+1) 0 (nth l i).tags.length,.ref (H.length+2) 0 (nth l i).whr.length]]]⟩:=by
      by_cases ck:k<out.length
      · have s1:=(hso _ (ae ck)).1
        have sm:=tu (nth out k).tags (nth l i).tags (by omega)
        have ct:¬(nth out k).tags=(nth l i).tags:=fun h=>c ⟨ck,h⟩
        have e3:=hr.el k ck
        have e4:=hr.ha k ck
        generalize nth out k=y at*
        obtain⟨ta,wa⟩:=y
        generalize hx:nth l i=x at*
        obtain⟨tb,wb⟩:=x
        simp only at s1 s2 sm e3 e4 ct cw
        simp only[ct,decide_false]at sm
        simp(disch:=omega)only[go_sem,K.dN,↓reduceIte,Nat.reduceAdd,Nat.reduceSub,l2,hx,cw,sm,e1,e2,e3,e4,hs1,hs2,hs3,hs4,hs5,hs6,dT,cF,fo,dF,n5,Nat.add_assoc,Nat.sub_zero]
      · have ek:k=out.length:=by omega
        subst ek
        generalize hx:nth l i=x at*
        obtain⟨tb,wb⟩:=x
        simp only at s2 cw
        simp(disch:=omega)only[go_sem,K.dN,↓reduceIte,Nat.reduceAdd,Nat.reduceSub,l2,hx,cw,e1,e2,hs1,hs2,hs3,hs4,hs5,hs6,dT,cF,fo,dF,n5,Nat.add_assoc,Nat.sub_zero]
     exact⟨_,_,run,.inr ⟨H.length,_,_,_,by rw[List.length_append,List.length_append,List.length_take,List.length_drop,List.length_singleton,Nat.min_eq_left kl];congr 1;omega,by rw[List.length_append,List.length_append,List.length_singleton];omega,hr.ins kl (nth l i) _⟩⟩
theorem tU(out:List World)(x:World):(i5 out x).length≤out.length+1∧out.length≤(i5 out x).length∧1≤(i5 out x).length:=by
 have kl:=xK out x
 unfold i5
 split
 · rename_i h
   rw[List.length_set];omega
 · rw[List.length_append,List.length_append,List.length_take,List.length_drop,List.length_singleton];omega
theorem Bh(l:List World):∀j,(o6 l j).length≤j
 | 0=>Nat.le_refl _
 | j+1=>by
   have:=Bh l j
   have:=(tU (o6 l j) (nth l j)).1
   simp only[o6];omega
theorem Ot(a b:Wh):(jS a b).1.frm.length≤a.frm.length:=by
 unfold jS
 split
 · simp only[mQ];omega
 · simp
theorem JK(a b:List Wh)(n:Nat)(h:∀w∈a,w.frm.length≤n):∀p,p≤a.length→∀w∈jU a b p,w.frm.length≤n
 | 0,_,w,hw=>h w hw
 | p+1,hp,w,hw=>by
   simp only[jU]at hw
   rcases List.mem_or_eq_of_mem_set hw with hw | rfl
   · exact JK a b n h p (by omega) w hw
   · exact Nat.le_trans (Ot _ _) (h _ (ae (by omega)))
theorem Rm{out:List World}{x:World}(ho:∀y∈out,y.sz)(hx:x.sz):∀y∈i5 out x,y.sz:=by
 intro y hy
 unfold i5 at hy
 split at hy
 · rename_i h
   rcases List.mem_or_eq_of_mem_set hy with hy | rfl
   · exact ho y hy
   · obtain⟨s1,s2,s3⟩:=ho _ (ae h.1)
     refine⟨hx.1,?_,?_⟩
     · show(jU _ _ _).length≤_
       rw[i4];exact s2
     · exact JK _ _ _ s3 _ (Nat.min_le_left _ _)
 · rcases List.mem_append.1 hy with hy | hy
   · rcases List.mem_append.1 hy with hy | hy
     · exact ho y (List.mem_of_mem_take hy)
     · rw[List.mem_singleton.1 hy];exact hx
   · exact ho y (List.mem_of_mem_drop hy)
theorem DP{l:List World}(hl:∀x∈l,x.sz):∀j,j≤l.length→∀y∈o6 l j,y.sz
 | 0,_,y,hy=>by simp[o6]at hy
 | j+1,h,y,hy=>Rm (DP hl j (by omega)) (hl _ (ae (by omega))) y hy
theorem Rp.frz{H:ai}{id:Nat}{es:List D}{fa fb:Nat→Nat}{out:List World}(hr:Rp H id es fa fb out):
 bA (frz H 8) es=some (out.map World.e)∧∀i∈es.flatMap (fF H 8),i≠id:=by
 have hl:=hr.len
 have key:∀(j:Nat) (hj:j<out.length),Go.Ev.frz H 8 (.agg [.ref (fa j) 0 (nth out j).tags.length,.ref (fb j) 0 (nth out j).whr.length])=some (nth out j).e∧
  fF H 8 (.agg [.ref (fa j) 0 (nth out j).tags.length,.ref (fb j) 0 (nth out j).whr.length])=[fa j,fb j]:=by
  intro j hj
  have h1:=hr.ha j hj
  have h2:=hr.hb j hj
  simp(disch:=omega)only[go_sem,h1,h2,ints,whs,↓reduceIte]
 constructor
 · have:∀(es:List D) (ts:List T),es.length=ts.length→(∀(j:Nat) e t,es[j]?=some e→ts[j]?=some t→Go.Ev.frz H 8 e=some t)→bA (Go.Ev.frz H 8) es=some ts:=by
    intro es
    induction es with
    | nil=>intro ts h _;cases ts with
      | nil=>rfl
      | cons=>simp at h
    | cons e es ih=>
      intro ts h hh
      cases ts with
      | nil=>simp at h
      | cons t ts=>
        have h1:=hh 0 e t rfl rfl
        have h2:=ih ts (by simpa using h) fun j e t he ht=>hh (j+1) e t (by simpa using he) (by simpa using ht)
        simp only[bA,h1,Option.bind_some,h2,Option.map_some]
   refine this es _ (by rw[List.length_map,hl]) fun j e t he ht=>?_
   have hj:j<out.length:=by rw[← hl];exact(List.getElem?_eq_some_iff.1 he).1
   rw[hr.el j hj]at he
   rw[bP _ hj]at ht
   cases he;cases ht
   exact(key j hj).1
 · intro i hi
   obtain⟨e,he,hi⟩:=List.mem_flatMap.1 hi
   obtain⟨j,hj⟩:=List.mem_iff_getElem?.1 he
   have hjl:j<out.length:=by rw[← hl];exact(List.getElem?_eq_some_iff.1 hj).1
   rw[hr.el j hjl]at hj
   cases hj
   rw[(key j hjl).2]at hi
   simp only[List.mem_cons,List.not_mem_nil,or_false]at hi
   rcases hi with rfl | rfl
   · exact hr.na j hjl
   · exact hr.nb j hjl
theorem WN(l:List World)(h0:1≤l.length)(hl:l.length≤100000)(hs:∀x∈l,x.sz):
 aE 1 N.fW [.t (.sl (l.map World.e))] []=some (.ref 0 0 (lY l).length,[.arr 2 false 0 (((lY l).map World.e).map .t)]):=by
 refine ak K.pf rfl ?_
 have loop:∀a b c:D,∃q,exS aE K.qR ⟨[.t (.sl (l.map World.e)),a,.nil,I 0,b,c],[]⟩=some q∧∃v H,q=(.exit 0,⟨[.t (.sl (l.map World.e)),.und,v,I l.length,.und,.und],H⟩)∧Rep H v (lY l):=by
  intro a b c
  refine xJ (fun j st=>∃v H,st=⟨[.t (.sl (l.map World.e)),.und,v,I j,.und,.und],H⟩∧Rep H v (o6 l j)) l.length _ ⟨.nil,[],rfl,.inl ⟨rfl,rfl⟩⟩ ?_ ?_
  · rintro j st hj ⟨v,H,rfl,hr⟩
    have ln:=Bh l j
    obtain⟨v',H',h1,h2⟩:=CS l j hj (by omega) (o6 l j) (by omega) (DP hs j (by omega)) (hs _ (ae hj)) H v hr
    exact⟨_,h1,v',H',rfl,h2⟩
  · rintro st ⟨v,H,rfl,hr⟩
    refine⟨(.exit 0,⟨[.t (.sl (l.map World.e)),.und,v,I l.length,.und,.und],H⟩),?_,by simp,v,H,rfl,hr⟩
    simp(disch:=omega)only[go_sem,K.dN,↓reduceIte,Nat.reduceAdd,Nat.reduceSub]
 obtain⟨q,hq,v,H,rfl,hr⟩:=loop .nil .und .und
 have nz:1≤(lY l).length:=by
  unfold lY
  cases hn:l.length with
  | zero=>omega
  | succ n=>exact(tU _ _).2.2
 rcases hr with⟨rfl,he⟩ | ⟨id,es,fa,fb,rfl,h0,hr⟩
 · rw[he]at nz;simp at nz
 · obtain⟨f1,f2⟩:=hr.frz
   have fin:=HX H id 2 (lY l).length es _ hr.arr hr.len.symm f1 f2
   simp(disch:=omega)only[go_sem,K.fW,↓reduceIte,Nat.reduceAdd,Nat.reduceSub,hq,fin]
end Go.Ev
