/- Parts of the proof: see the text that holds the theorem. -/
import Derived.Test.YtljlbkjecjloaaaGreatZ3
set_option linter.all false
set_option maxRecDepth 100000
namespace Go.Ev
open Go
section
variable (H : ai) (sz id ep n lo hi : Nat) (i j : Int) (fz : Bool)
def scO(r:D):Option Obj→Option (D×ai)
 | some (.arr sz' _ ep' es)=>if ep=ep'∧n=es.length then(if sz'=sz then some (r,H)else none)else none
 | _=>none
@[go_sem] theorem ace (r : D) (sz' : Nat) (pin : Bool) (es : List D) : scO H sz ep n r (some (.arr sz' pin ep es)) = if n = es.length then (if sz' = sz then some (r, H) else none) else none := by simp [scO]
theorem scR{l h:Nat}:((fq H id ep n).bind fun a=>if l≤h∧h≤n∧a.1=sz then some (D.sub id ep n l h)else none).map (fun d=>(d,H))=if l≤h then(if h≤n then scO H sz ep n (.sub id ep n l h) H[id]? else none)else none:=by
 simp only[fq]
 generalize H[id]?=o
 by_cases h1:l≤h
 · by_cases h2:h≤n
   · rw[if_pos h1,if_pos h2]
     rcases o with _ | (_ | ⟨sz',pin,ep',es⟩)
     · rfl
     · rfl
     · simp only[scO]
       by_cases h3:ep=ep'∧n=es.length
       · rw[if_pos h3,if_pos h3,Option.bind_some]
         by_cases h4:sz'=sz
         · rw[if_pos h4,if_pos ⟨h1,h2,h4⟩];rfl
         · rw[if_neg h4,if_neg fun h=>h4 h.2.2];rfl
       · rw[if_neg h3,if_neg h3];rfl
   · rw[if_pos h1,if_neg h2]
     rcases o with _ | (_ | ⟨sz',pin,ep',es⟩)
     · rfl
     · rfl
     · by_cases h3:ep=ep'∧n=es.length
       · simp only[if_pos h3,Option.bind_some];rw[if_neg fun h=>h2 h.2.1];rfl
       · simp only[if_neg h3];rfl
 · rw[if_neg h1]
   rcases o with _ | (_ | ⟨sz',pin,ep',es⟩)
   · rfl
   · rfl
   · by_cases h3:ep=ep'∧n=es.length
     · simp only[if_pos h3,Option.bind_some];rw[if_neg fun h=>h1 h.1];rfl
     · simp only[if_neg h3];rfl
@[go_sem] theorem QE : B6 H sz (some (.ref id ep n)) (some none) (some (some i)) = if 0 ≤ i then (if i ≤ n then scO H sz ep n (.sub id ep n 0 i.toNat) H[id]? else none) else none := by
 simp only[B6,Option.bind_some,m9,bound,idx]
 by_cases h1:0≤i
 · rw[if_pos h1,if_pos h1,Option.bind_some,scR,if_pos (Nat.zero_le _)]
   by_cases h2:i≤n
   · rw[if_pos h2,if_pos (by omega)]
   · rw[if_neg h2,if_neg (by omega)]
 · rw[if_neg h1,if_neg h1];rfl
@[go_sem] theorem QF : B6 H sz (some (.ref id ep n)) (some (some i)) (some none) = if 0 ≤ i then (if i ≤ n then scO H sz ep n (.sub id ep n i.toNat n) H[id]? else none) else none := by
 simp only[B6,Option.bind_some,m9,bound,idx]
 by_cases h1:0≤i
 · rw[if_pos h1,if_pos h1,Option.bind_some,scR]
   by_cases h2:i≤n
   · rw[if_pos h2,if_pos (by omega),if_pos (by omega)]
   · rw[if_neg h2,if_neg (by omega)]
 · rw[if_neg h1,if_neg h1];rfl
@[go_sem] theorem L8 : B6 H sz (some (.ref id ep n)) (some (some i)) (some (some j)) = if 0 ≤ i then (if i ≤ j then (if j ≤ n then scO H sz ep n (.sub id ep n i.toNat j.toNat) H[id]? else none) else none) else none := by
 simp only[B6,Option.bind_some,m9,bound,idx]
 by_cases h1:0≤i
 · rw[if_pos h1,if_pos h1,Option.bind_some]
   by_cases h0:i≤j
   · rw[if_pos h0,if_pos (by omega),Option.bind_some,scR,if_pos (by omega)]
     by_cases h2:j≤n
     · rw[if_pos h2,if_pos (by omega)]
     · rw[if_neg h2,if_neg (by omega)]
   · rw[if_neg h0]
     by_cases h2:0≤j
     · rw[if_pos h2,Option.bind_some,scR,if_neg (by omega)]
     · rw[if_neg h2];rfl
 · rw[if_neg h1,if_neg h1];rfl
@[go_sem] theorem QG : B6 H sz (some .nil) (some none) (some (some i)) = if i = 0 then some (.nil, H) else none := by
 simp only[B6,Option.bind_some,m9,bound,idx]
 by_cases h1:0≤i
 · rw[if_pos h1,Option.bind_some]
   by_cases h2:i=0
   · rw[if_pos h2,if_pos (by omega)];rfl
   · rw[if_neg h2,if_neg (by omega)];rfl
 · rw[if_neg h1,if_neg (by omega)];rfl
@[go_sem] theorem QH : B6 H sz (some .nil) (some (some i)) (some none) = if i = 0 then some (.nil, H) else none := by
 simp only[B6,Option.bind_some,m9,bound,idx]
 by_cases h1:0≤i
 · rw[if_pos h1,Option.bind_some]
   by_cases h2:i=0
   · rw[if_pos h2,if_pos (by omega)];rfl
   · rw[if_neg h2,if_neg (by omega)];rfl
 · rw[if_neg h1,if_neg (by omega)];rfl
def FH(x:D)(ys:List D):Option (D×ai):=if b5 sz ys=true then(match x with
 | .nil=>if ys.length≤4294967296 then some (.ref H.length 0 ys.length,H++[.arr sz false 0 ys])else none
 | .ref id ep n=>vQ H sz id ep n ys H[id]?
 | _=>none)else none
@[go_sem] theorem Zt (ys : List D) : FH H sz .nil ys = if b5 sz ys = true then (if ys.length ≤ 4294967296 then some (.ref H.length 0 ys.length, H ++ [.arr sz false 0 ys]) else none) else none := (rfl)
@[go_sem] theorem Zu (ys : List D) : FH H sz (.ref id ep n) ys = if b5 sz ys = true then vQ H sz id ep n ys H[id]? else none := (rfl)
@[go_sem] theorem NN : b5 sz [] = true := (rfl)
@[go_sem] theorem AM (d : D) (r : List D) : b5 sz (d :: r) = nF sz d.cells := by
 rw[Bool.eq_iff_iff,eV];simp[b5]
def WI(x:D):Option Obj→Option (D×ai)
 | some (.arr _ _ ep' es)=>if ep=ep'∧n=es.length then FH H sz x ((es.drop lo).take (hi-lo))else none
 | _=>none
def WJ(x:D):Option Obj→Option (D×ai)
 | some (.arr _ _ ep' es)=>if ep=ep'∧n=es.length then FH H sz x es else none
 | _=>none
@[go_sem] theorem Zv (x : D) (sz' : Nat) (pin : Bool) (es : List D) : WI H sz ep n lo hi x (some (.arr sz' pin ep es)) = if n = es.length then FH H sz x ((es.drop lo).take (hi - lo)) else none := by simp [WI]
@[go_sem] theorem Zw (x : D) (sz' : Nat) (pin : Bool) (es : List D) : WJ H sz ep n x (some (.arr sz' pin ep es)) = if n = es.length then FH H sz x es else none := by simp [WJ]
theorem Jg(x:D)(ys:List D):(if b5 sz ys=true then(match x with
 | .nil=>if ys.length≤lim then some (D.ref H.length 0 ys.length,H++[.arr sz false 0 ys])else none
 | .ref id ep n=>(fq H id ep n).bind fun a=>if a.1=sz∧n+ys.length≤lim then some (.ref id ep (n+ys.length),H.set id (.arr sz a.2.1 ep (a.2.2++ys)))else none
 | _=>none)else none)=FH H sz x ys:=by
 unfold FH
 split
 · cases x with
   | ref id ep n=>
     simp only[fq]
     generalize H[id]?=o
     rcases o with _ | (_ | ⟨sz',pin,ep',es⟩)
     · rfl
     · rfl
     · simp only[vQ]
       by_cases h1:ep=ep'∧n=es.length
       · rw[if_pos h1,Option.bind_some]
         by_cases h2:sz'=sz∧n+ys.length≤lim
         · rw[if_pos h2,if_pos ⟨h1.1,h1.2,h2⟩]
         · rw[if_neg h2,if_neg fun h=>h2 h.2.2]
       · rw[if_neg h1,if_neg fun h=>h1 ⟨h.1,h.2.1⟩];rfl
   | _=>rfl
 · rfl
theorem vi(x y:D)(ys:List D)(h:elems H y=some ys):o6 H sz false (some x) (some y)=FH H sz x ys:=by
 simp only[o6,Option.bind_some,mr,h,Bool.false_eq_true,if_false]
 exact Jg H sz x ys
@[go_sem] theorem KS (x : D) : o6 H sz false (some x) (some .nil) = FH H sz x [] := vi H sz x .nil [] rfl
@[go_sem] theorem KT (x : D) : o6 H sz false (some x) (some (.ref id ep n)) = WJ H sz ep n x H[id]? := by
 cases he:elems H (.ref id ep n)with
 | some ys=>
   rw[vi H sz x _ ys he]
   simp only[elems,fq]at he
   generalize H[id]?=o at he
   rcases o with _ | (_ | ⟨sz',pin,ep',es⟩)
   · cases he
   · cases he
   · simp only[WJ]
     by_cases h1:ep=ep'∧n=es.length
     · simp only[if_pos h1]at he ⊢;cases he;rfl
     · simp only[if_neg h1]at he;cases he
 | none=>
   have:o6 H sz false (some x) (some (.ref id ep n))=none:=by simp only[o6,Option.bind_some,mr,he];rfl
   rw[this]
   simp only[elems,fq]at he
   generalize H[id]?=o at he
   rcases o with _ | (_ | ⟨sz',pin,ep',es⟩)
   · rfl
   · rfl
   · simp only[WJ]
     by_cases h1:ep=ep'∧n=es.length
     · simp only[if_pos h1]at he;cases he
     · simp only[if_neg h1]
@[go_sem] theorem KU (x : D) : o6 H sz false (some x) (some (.sub id ep n lo hi)) = WI H sz ep n lo hi x H[id]? := by
 cases he:elems H (.sub id ep n lo hi)with
 | some ys=>
   rw[vi H sz x _ ys he]
   simp only[elems,fq]at he
   generalize H[id]?=o at he
   rcases o with _ | (_ | ⟨sz',pin,ep',es⟩)
   · cases he
   · cases he
   · simp only[WI]
     by_cases h1:ep=ep'∧n=es.length
     · simp only[if_pos h1]at he ⊢;cases he;rfl
     · simp only[if_neg h1]at he;cases he
 | none=>
   have:o6 H sz false (some x) (some (.sub id ep n lo hi))=none:=by simp only[o6,Option.bind_some,mr,he];rfl
   rw[this]
   simp only[elems,fq]at he
   generalize H[id]?=o at he
   rcases o with _ | (_ | ⟨sz',pin,ep',es⟩)
   · rfl
   · rfl
   · simp only[WI]
     by_cases h1:ep=ep'∧n=es.length
     · simp only[if_pos h1]at he;cases he
     · simp only[if_neg h1]
def TJ(ep n lo hi:Nat):Option Obj→Option (List D)
 | some (.arr _ _ ep' es)=>if ep=ep'∧n=es.length then some ((es.drop lo).take (hi-lo))else none
 | _=>none
def Zx(x:D):Option (List D)→Option (D×ai)
 | some ys0=>(bL (fun d=>(frz H depth d).map .t) ys0).bind fun ys=>if b5 sz ys then FH (pins H (ys0.flatMap (eL H depth))) sz x ys else none
 | none=>none
@[go_sem] theorem adx (x : D) (ts : List T) : Zx H sz x (some (ts.map .t)) = FH H sz x (ts.map .t) := by
 simp only[Zx,tT,Option.bind_some,Fl,pins]
 by_cases h:b5 sz (ts.map D.t)=true
 · rw[if_pos h]
 · rw[if_neg h];unfold FH;rw[if_neg h]
@[go_sem] theorem L9 (x : D) : o6 H sz true (some x) (some (.sub id ep n lo hi)) = Zx H sz x (TJ ep n lo hi H[id]?) := by
 have e:elems H (.sub id ep n lo hi)=TJ ep n lo hi H[id]?:=by
  simp only[elems,fq]
  generalize H[id]?=o
  rcases o with _ | (_ | ⟨sz',pin,ep',es⟩)
  · rfl
  · rfl
  · simp only[TJ]
    by_cases h1:ep=ep'∧n=es.length
    · simp only[if_pos h1];rfl
    · simp only[if_neg h1];rfl
 simp only[o6,Option.bind_some,mr,e]
 cases TJ ep n lo hi H[id]? with
 | none=>rfl
 | some ys0=>
   simp only[Option.bind_some,Zx,if_true]
   cases hm:bL (fun d=>(frz H depth d).map D.t) ys0 with
   | none=>rfl
   | some ys=>
     simp only[Option.bind_some]
     refine(Jg _ _ _ _).trans ?_
     by_cases h:b5 sz ys=true
     · rw[if_pos h]
     · rw[if_neg h];unfold FH;rw[if_neg h]
@[go_sem] theorem Zy (ep n lo hi sz : Nat) (pin : Bool) (ts : List T) : TJ ep n lo hi (some (.arr sz pin ep (ts.map .t))) = if n = ts.length then some (((ts.drop lo).take (hi - lo)).map .t) else none := by
 simp only[TJ,true_and,List.length_map,List.map_take,List.map_drop]
def Jh(ds:List D):Option (D×ai):=if ds.all (fun d=>d.cells.length==sz&&d.iG)then some (.ref H.length 0 ds.length,H++[.arr sz false 0 ds])else none
@[go_sem] theorem ady (call : aQ) (get : X → Option D) (xs : List X) : evO call get H (.bsr xs sz) = (bL get xs).bind (Jh H sz) := (rfl)
@[go_sem] theorem WK : Jh H sz [] = some (.ref H.length 0 0, H ++ [.arr sz false 0 []]) := (rfl)
@[go_sem] theorem WL (k : IntKind) (n : Int) : Jh H 1 [.t (.int k n)] = some (.ref H.length 0 1, H ++ [.arr 1 false 0 [.t (.int k n)]]) := (rfl)
@[go_sem] theorem WM (cs : List D) : Jh H sz [.agg cs] = if nF sz cs = true then some (.ref H.length 0 1, H ++ [.arr sz false 0 [.agg cs]]) else none := by
 simp only[Jh,List.all_cons,List.all_nil,Bool.and_true,D.cells,D.iG]
 by_cases h:nF sz cs=true
 · rw[if_pos h,if_pos (by simpa using eV.1 h)];rfl
 · rw[if_neg h,if_neg (by intro e;exact h (eV.2 (by simpa using e)))]
end
@[go_sem] theorem NQ : (1 : Int).toNat = 1 := (rfl)
@[go_sem] theorem QI : (2 : Int).toNat = 2 := (rfl)
@[go_sem] theorem Ma : (3 : Int).toNat = 3 := (rfl)
section
variable {H t : ai} {i j k : Nat} {o o' : Obj}
theorem im(h:i<H.length):(H++t)[i]?=H[i]?:=List.getElem?_append_left h
theorem iK:(H++t)[H.length]?=t[0]?:=by rw[List.getElem?_append_right (Nat.le_refl _),Nat.sub_self]
theorem gh:(H++t)[H.length+k]?=t[k]?:=by rw[List.getElem?_append_right (Nat.le_add_right _ _),Nat.add_sub_cancel_left]
theorem Ji(h:i<H.length):(H++t).set i o=H.set i o++t:=List.set_append_left _ _ h
theorem mq:(H++t).set H.length o=H++t.set 0 o:=by rw[List.set_append_right _ _ (Nat.le_refl _),Nat.sub_self]
theorem oC(h:i<H.length):(H.set i o)[i]?=some o:=by simp[h]
theorem ja(h:i≠j):(H.set i o)[j]?=H[j]?:=List.getElem?_set_ne h
theorem rC:(H.set i o).set i o'=H.set i o':=List.set_set ..
theorem rD(a b:ai):(H++a)++b=H++(a++b):=List.append_assoc ..
theorem mI(h:H[i]?=some o):i<H.length:=(List.getElem?_eq_some_iff.1 h).1
end
theorem D3(H:ai)(id sz n:Nat)(es:List D)(ts:List T)(hid:H[id]?=some (.arr sz false 0 es))(hn:n=es.length)(hf:bL (frz H 8) es=some ts)(ha:∀i∈es.flatMap (eL H 8),i≠id):
 finish 0 1 H [.ref id 0 n]=some (.ref 0 0 n,[.arr sz false 0 (ts.map .t)]):=by
 have hold:([D.ref id 0 n].all (old 0 depth)&&(H.take 0).all (fun o=>o.ds.all (old 0 depth)))=false:=by
  simp[old,depth]
 have hmap:∀ {es:List D} {ts:List T},bL (frz H 8) es=some ts→bL (fun d=>(frz H 8 d).map D.t) es=some (ts.map .t):=by
  intro es
  induction es with
  | nil=>intro ts h;simp[bL]at h;subst h;rfl
  | cons e es ih=>
    intro ts h
    simp only[bL,Option.bind_eq_some_iff,Option.map_eq_some_iff]at h
    obtain⟨y,hy,r,hr,rfl⟩:=h
    simp only[bL,hy,Option.map_some,Option.bind_some,ih hr,List.map_cons]
 have hnew:(eM [] [id]).drop 0=[id]:=by simp[eM]
 have hall:(es.flatMap (eL H 8)).all (fun i=> !([]++[id]).contains i)=true:=by
  rw[List.all_eq_true];intro i hi;simpa using ha i hi
 unfold finish
 rw[if_neg (by omega),Option.bind_some,hold,if_neg (by simp)]
 have hk:kU H (max 1 1) (List.range 0) ([D.ref id 0 n].flatMap (ids depth)++oe H (List.range 0))=some ([id],[.arr sz false 0 (ts.map .t)]):=by
  have e1:[D.ref id 0 n].flatMap (ids depth)++oe H (List.range 0)=[id]:=by simp[ids,depth,oe]
  rw[e1]
  simp only[Nat.max_self,List.range_zero]
  unfold kU
  simp only[List.length_nil,hnew,pick,hid,Option.bind_some,Option.map_some,if_true,List.flatMap_cons,List.flatMap_nil,List.append_nil,Obj.ds,depth,hall,bL,dS,hmap hf]
  simp only[kU,Option.map_some,List.append_nil,Option.bind_some]
 rw[hk]
 simp only[Option.bind_some,List.range_zero,List.nil_append,List.take_zero,iy,Nat.succ_ne_zero,if_false,Nat.one_ne_zero,List.all_nil,if_true,bL,ren,idxOf,Option.map_some,gp,tp,depth]
 have:=IQ (fun i=>if id=i then some 0 else Option.map (fun x=>x+1) none) ts
 simp only[depth]at this
 rw[this];rfl
end Go.Ev
namespace Go.Ev.N
def Jj:Nat:=78
def HR:Nat:=79
def GW:Nat:=80
def QJ:Nat:=81
def KV:Nat:=82
def QK:Nat:=83
def QL:Nat:=84
def QM:Nat:=85
def TK:Nat:=86
def NR:Nat:=87
def QN:Nat:=88
def NS:Nat:=89
def NT:Nat:=90
def TL:Nat:=91
def NU:Nat:=92
def TM:Nat:=93
def jb:Nat:=94
def WN:Nat:=95
def QO:Nat:=96
def TN:Nat:=97
def QP:Nat:=98
def QQ:Nat:=99
def QR:Nat:=100
def TO:Nat:=101
def WO:Nat:=102
def Dj:Nat:=103
def Mb:Nat:=104
def dW:Nat:=105
def NV:Nat:=106
def TP:Nat:=107
def TQ:Nat:=108
def QS:Nat:=109
def TR:Nat:=110
def iL:Nat:=111
def QT:Nat:=112
def QU:Nat:=113
def TS:Nat:=114
def NW:Nat:=115
def TT:Nat:=116
def TU:Nat:=117
def gq:Nat:=118
def NX:Nat:=119
def Mc:Nat:=120
def Md:Nat:=121
def FI:Nat:=122
end Go.Ev.N
namespace Go.Ev.N
def Jk:Nat:=123
def HT:Nat:=124
def KW:Nat:=125
def Jl:Nat:=126
def QV:Nat:=127
def QW:Nat:=128
def QX:Nat:=129
def TV:Nat:=130
def TW:Nat:=131
def QY:Nat:=132
def QZ:Nat:=133
def Me:Nat:=134
def Mf:Nat:=135
def TX:Nat:=136
def Q0:Nat:=137
def Mg:Nat:=138
def NY:Nat:=139
def KX:Nat:=140
def NZ:Nat:=141
def Mh:Nat:=142
def Jm:Nat:=143
def Jn:Nat:=144
def cM:Nat:=145
def N0:Nat:=146
def N1:Nat:=147
def bG:Nat:=148
end Go.Ev.N
namespace Go.Ev.N
def FJ:Nat:=149
def Jo:Nat:=150
def Jp:Nat:=151
def HU:Nat:=152
def Q1:Nat:=153
def Q2:Nat:=154
def N2:Nat:=155
def N3:Nat:=156
def Q3:Nat:=157
def TY:Nat:=158
def Q4:Nat:=159
def bc:Nat:=160
def FK:Nat:=161
def Q5:Nat:=162
def TZ:Nat:=163
def N4:Nat:=164
def T0:Nat:=165
def N5:Nat:=166
def dL:Nat:=167
def rN:Nat:=168
def Mi:Nat:=169
def dw:Nat:=170
def GX:Nat:=171
def Mj:Nat:=172
def gT:Nat:=173
def tc:Nat:=174
def Jq:Nat:=175
def cN:Nat:=176
def eY:Nat:=177
end Go.Ev.N
namespace Go.Ev.K
open Go.Ev
def cO:C:=(.seq (.ite [m v6,m v5,u (.ln l0),u (.bin .lss l2 l0)] [] 0 .skip (.exit 0)) (.blk 1 (.reg [m v6,m v5,m v6,u (.sc l1 (some l0) none 1),m v5,m v6,u (.sc l1 none (some l0) 1),u (.cp l3 l0 1),u (.bin .add l7 l0),w 6 (.mv l0)] [])))
def jM:C:= .loop true [0,1,2,3,4] K.cO
def bc:Fn:={ nargs:=2,vars:=[0,1,4,5,6,7,8],body:=(.seq (.reg [w 2 (.mv (.c (.nil)))] []) (.seq (.ite [m v1,u (.bin .lss l0 (.i 0))] [] 0 .fail .skip) (.seq (.reg [m v0,u (.ln l0),u (.cv .u64 l0),m v1,u (.cv .u64 l0),u (.ca N.dw 0 [] [.l 2,.l 0]),m l0,u (.ex l0 0),u (.ex l1 1),w 3 (.mv l1),w 4 (.mv l1)] []) (.seq (.ite [m v3,u (.bin .gtr l0 (.c (.t (.int .u64 (0))))),m l0,y 0 false (.mv v4),y 1 false (.bin .gtr l0 (.c (.t (.int .u64 (9223372036854775807))))),u (.pk l2 (.b true) l0)] [] 0 .fail .skip) (.seq (.reg [m v4,u (.cv .i64 l0),u (.mk l0 (.t (.int .i64 (0))) 1),w 5 (.mv l0)] []) (.seq (.reg [m v5,m v0,u (.cp l1 l0 1),w 6 (.mv l0)] []) (.seq (.blk 0 K.jM) (.seq (.reg [m v5,w 2 (.mv l0)] []) .ret)))))))),res:=[(2,none)]}
def dL:Fn:={ nargs:=1,vars:=[0,1,2],body:=(.seq (.reg [w 1 (.bx v0 2),w 2 (.mv (.b false))] []) (.seq (.reg [h 2 v1,u (.ca N.gT 0 [] [.l 0]),u (.bin .eql l0 (.i 0)),w 2 (.mv l0)] []) .ret)),res:=[(2,none)]}
def dw:Fn:={ nargs:=2,vars:=[0,1,4,5,8,9],body:=(.seq (.reg [w 2 (.mv (.c (.t (.int .u64 (0))))),w 3 (.mv (.c (.t (.int .u64 (0)))))] []) (.seq (.cnd false .skip) (.seq (.reg [m v0,m v1,u (.ca N.cN 0 [] [.l 1,.l 0]),m l0,u (.ex l0 0),u (.ex l1 1),w 4 (.mv l1),w 5 (.mv l1)] []) (.seq (.reg [m v4,m v5,w 2 (.mv l1),w 3 (.mv l1)] []) .ret)))),res:=[(2,none),(3,none)]}
end Go.Ev.K
namespace Go.Ev
class gE [Lib]:Prop where
 gv:Lib.fs N.bc=some K.bc
 qM:Lib.fs N.dL=some K.dL
 mJ:Lib.fs N.dw=some K.dw
namespace K
variable [Lib] [gE]
theorem gv:Lib.fs N.bc=some K.bc:=gE.gv
theorem qM:Lib.fs N.dL=some K.dL:=gE.qM
theorem mJ:Lib.fs N.dw=some K.dw:=gE.mJ
end K
end Go.Ev
namespace Go.Ev.K
open Go.Ev
def nV:C:=(.its [u (.bin .lss v8 v7)] [] 0 .skip (.exit 0) (.seq (.blk 1 (.seq (.reg [a 2 v6 v8,h 2 l0,w 3 (.al [.t (.int .i64 (0)),.t (.bool false)] []),u (.st l0 l1 2 [])] []) (.ite [f 0 v3,g l0,u (.bin .lss l0 (.i (-10000))),m l0,y 0 false (.fa v3 0),y 1 false (.ld l0 1 false),y 2 false (.bin .gtr l0 (.i 10000)),u (.pk l3 (.b true) l0)] [] 0 (.seq (.reg [w 2 (.mv (.i 1))] []) .ret) .skip))) (.reg [u (.bin .add v8 (.i 1)),w 8 (.mv l0)] [])))
def um:C:= .loop true [0,2,3,4,5,9,10,11] K.nV
def nW:C:=(.its [u (.bin .lss v11 v10)] [] 0 .skip (.exit 2) (.seq (.blk 3 (.seq (.reg [a 10 v9 v11,h 10 l0,w 5 (.al [.t (.int .i64 (0)),.t (.int .i64 (0)),.t (.int .i64 (0)),.t (.int .i64 (0)),.t (.bool false),.t (.bool false),.t (.int .i64 (0)),.t (.int .i64 (0)),.t (.int .i64 (0)),.t (.int .i64 (0))] []),u (.st l0 l1 10 [])] []) (.seq (.ite [f 0 v5,g l0,u (.bin .lss l0 (.i 0)),m l0,y 0 false (.fa v5 0),y 1 false (.ld l0 1 false),y 2 false (.mv v4),y 3 false (.bin .geq l1 l0),u (.pk l4 (.b true) l0),m l0,y 0 false (.fa v5 1),y 1 false (.ld l0 1 false),y 2 false (.bin .lss l0 (.i 0)),u (.pk l3 (.b true) l0),m l0,y 0 false (.fa v5 1),y 1 false (.ld l0 1 false),y 2 false (.mv v4),y 3 false (.bin .geq l1 l0),u (.pk l4 (.b true) l0),m l0,y 0 false (.fa v5 0),y 1 false (.ld l0 1 false),y 2 false (.fa v5 1),y 3 false (.ld l0 1 false),y 4 false (.bin .eql l2 l0),u (.pk l5 (.b true) l0)] [] 0 (.seq (.reg [w 2 (.mv (.i 4))] []) .ret) .skip) (.seq (.ite [f 2 v5,g l0,u (.bin .lss l0 (.i 1)),m l0,y 0 false (.fa v5 2),y 1 false (.ld l0 1 false),y 2 false (.bin .gtr l0 (.i 100000)),u (.pk l3 (.b true) l0),m l0,y 0 false (.fa v5 3),y 1 false (.ld l0 1 false),y 2 false (.bin .lss l0 (.i 1)),u (.pk l3 (.b true) l0),m l0,y 0 false (.fa v5 3),y 1 false (.ld l0 1 false),y 2 false (.bin .gtr l0 (.i 1000)),u (.pk l3 (.b true) l0)] [] 0 (.seq (.reg [w 2 (.mv (.i 1))] []) .ret) .skip) (.ite [f 6 v5,h 2 l0,u (.ca N.eY 0 [] [.l 0,.i 1,.i 262144]),u (.un .not l0),m l0,y 0 false (.fa v5 8),y 1 false (.ld l0 2 true),y 2 false (.ca N.eY 0 [] [.l 0,.i (-2199023255552),.i 2199023255552]),y 3 false (.un .not l0),u (.pk l4 (.b true) l0)] [] 0 (.seq (.reg [w 2 (.mv (.i 1))] []) .ret) .skip))))) (.reg [u (.bin .add v11 (.i 1)),w 11 (.mv l0)] [])))
def uo:C:= .loop true [0,1,2,3,5,6,7,8] K.nW
def gT:Fn:={ nargs:=1,vars:=[0,1,2,4,5,7,19,20,21,38,39,40],body:=(.seq (.reg [w 1 (.bx v0 2),w 2 (.mv (.i 0))] []) (.seq (.ite [f 0 v1,g l0,u (.ln l0),u (.bin .gtr l0 (.i 64)),m l0,y 0 false (.fa v1 1),y 1 false (.ld l0 1 false),y 2 false (.ln l0),y 3 false (.bin .gtr l0 (.i 128)),u (.pk l4 (.b true) l0)] [] 0 (.seq (.reg [w 2 (.mv (.i 2))] []) .ret) .skip) (.seq (.seq (.reg [f 0 v1,w 6 (.ld l0 1 false),w 7 (.ln l0),w 8 (.mv (.i 0))] []) (.blk 0 K.um)) (.seq (.reg [f 0 v1,g l0,u (.ln l0),w 4 (.mv l0)] []) (.seq (.seq (.reg [f 1 v1,w 9 (.ld l0 1 false),w 10 (.ln l0),w 11 (.mv (.i 0))] []) (.blk 2 K.uo)) (.seq (.reg [w 2 (.mv (.i 0))] []) .ret)))))),res:=[(2,none)]}
def cN:Fn:={ nargs:=2,vars:=[0,1,4,5,6,7,8,9,10,11,12,13],body:=(.seq (.reg [w 2 (.mv (.c (.t (.int .u64 (0))))),w 3 (.mv (.c (.t (.int .u64 (0)))))] []) (.seq (.reg [m v0,u (.bin .and l0 (.c (.t (.int .u64 (4294967295))))),w 4 (.mv l0)] []) (.seq (.reg [m v0,u (.bin .shr l0 (.c (.t (.int .u64 (32))))),w 5 (.mv l0)] []) (.seq (.reg [m v1,u (.bin .and l0 (.c (.t (.int .u64 (4294967295))))),w 6 (.mv l0)] []) (.seq (.reg [m v1,u (.bin .shr l0 (.c (.t (.int .u64 (32))))),w 7 (.mv l0)] []) (.seq (.reg [m v4,m v6,u (.bin .mul l1 l0),w 8 (.mv l0)] []) (.seq (.reg [m v5,m v6,u (.bin .mul l1 l0),m v8,u (.bin .shr l0 (.c (.t (.int .u64 (32))))),u (.bin .add l2 l0),w 9 (.mv l0)] []) (.seq (.reg [m v9,u (.bin .and l0 (.c (.t (.int .u64 (4294967295))))),w 10 (.mv l0)] []) (.seq (.reg [m v9,u (.bin .shr l0 (.c (.t (.int .u64 (32))))),w 11 (.mv l0)] []) (.seq (.reg [m v10,m v4,m v7,u (.bin .mul l1 l0),u (.bin .add l3 l0),w 10 (.mv l0)] []) (.seq (.reg [m v5,m v7,u (.bin .mul l1 l0),m v11,u (.bin .add l1 l0),m v10,u (.bin .shr l0 (.c (.t (.int .u64 (32))))),u (.bin .add l2 l0),w 2 (.mv l0)] []) (.seq (.reg [m v0,m v1,u (.bin .mul l1 l0),w 3 (.mv l0)] []) .ret)))))))))))),res:=[(2,none),(3,none)]}
def eY:Fn:={ nargs:=3,vars:=[0,1,2,3,6],body:=(.seq (.reg [w 3 (.bx v0 2),w 4 (.mv (.b false))] []) (.seq (.reg [m v1,f 0 v3,g l0,u (.bin .leq l2 l0),m l0,y 0 true (.fa v3 0),y 1 true (.ld l0 1 false),y 2 true (.fa v3 1),y 3 true (.ld l0 1 false),y 4 true (.bin .leq l2 l0),u (.pk l5 l0 (.b false)),m l0,y 0 true (.fa v3 1),y 1 true (.ld l0 1 false),y 2 true (.mv v2),y 3 true (.bin .leq l1 l0),u (.pk l4 l0 (.b false)),w 4 (.mv l0)] []) .ret)),res:=[(4,none)]}
end Go.Ev.K
namespace Go.Ev
class gF [Lib]:Prop where
 qN:Lib.fs N.gT=some K.gT
 kJ:Lib.fs N.cN=some K.cN
 pM:Lib.fs N.eY=some K.eY
namespace K
variable [Lib] [gF]
theorem qN:Lib.fs N.gT=some K.gT:=gF.qN
theorem kJ:Lib.fs N.cN=some K.cN:=gF.kJ
theorem pM:Lib.fs N.eY=some K.eY:=gF.pM
end K
end Go.Ev
namespace Go.Ev
open Go
variable [Lib] [cm] [bS] [gE] [gF]
section
variable (H : ai) (sz : Nat)
def N6(id ep n lo hi:Nat)(ys:List D):Option Obj→Option (D×ai)
 | some (.arr sz' pin ep' es)=>if ep=ep'∧n=es.length then OI H id ep (sz',pin,es) lo hi ys sz else none
 | _=>none
def cpD(x:D)(ys:List D):Option (D×ai):=if b5 sz ys=true then(match x with
 | .ref id ep n=>N6 H sz id ep n 0 n ys H[id]?
 | .sub id ep n lo hi=>N6 H sz id ep n lo hi ys H[id]?
 | _=>none)else none
def Zz(x y:Option D):Option (D×ai):=x.bind fun a=>y.bind fun b=>Af H a b sz
@[go_sem] theorem aen (call : aQ) (get : X → Option D) (x y : X) : evO call get H (.cp x y sz) = Zz H sz (get x) (get y) := (rfl)
theorem FL(x y:D)(ys:List D)(h:elems H y=some ys):Af H x y sz=cpD H sz x ys:=by
 unfold Af cpD
 rw[h,Option.bind_some]
 split
 · rename_i hh
   cases x with
   | ref id ep n=>
     simp only[fq,N6]
     cases H[id]? with
     | none=>rfl
     | some o=>
       cases o with
       | box cs=>rfl
       | arr sz' pin ep' es=>
         simp only
         by_cases c:ep=ep'∧n=es.length
         · rw[if_pos c,if_pos c];rfl
         · rw[if_neg c,if_neg c];rfl
   | sub id ep n lo hi=>
     simp only[fq,N6]
     cases H[id]? with
     | none=>rfl
     | some o=>
       cases o with
       | box cs=>rfl
       | arr sz' pin ep' es=>
         simp only
         by_cases c:ep=ep'∧n=es.length
         · rw[if_pos c,if_pos c];rfl
         · rw[if_neg c,if_neg c];rfl
   | _=>rfl
 · rfl
@[go_sem] theorem adz (x : D) (ts : List T) : Zz H sz (some x) (some (.t (.sl ts))) = cpD H sz x (ts.map .t) := FL H sz x (.t (.sl ts)) (ts.map .t) rfl
def cpE(x:D)(ep n lo hi:Nat):Option Obj→Option (D×ai)
 | some (.arr _ _ ep' es)=>if ep=ep'∧n=es.length then cpD H sz x ((es.drop lo).take (hi-lo))else none
 | _=>none
@[go_sem] theorem acf (x : D) (n lo hi sz' : Nat) (pin : Bool) (ep : Nat) (es : List D) : cpE H sz x ep n lo hi (some (.arr sz' pin ep es)) = if n = es.length then cpD H sz x ((es.drop lo).take (hi - lo)) else none := by simp [cpE]
@[go_sem] theorem ZA (x : D) (id ep n lo hi : Nat) : Zz H sz (some x) (some (.sub id ep n lo hi)) = cpE H sz x ep n lo hi H[id]? := by
 unfold Zz
 simp only[Option.bind_some]
 cases h:H[id]? with
 | none=>simp[Af,elems,fq,h,cpE]
 | some o=>
   cases o with
   | box cs=>simp[Af,elems,fq,h,cpE]
   | arr sz' pin ep' es=>
     by_cases c:ep=ep'∧n=es.length
     · rw[FL H sz x _ ((es.drop lo).take (hi-lo)) (by simp[elems,fq,h,c])]
       simp only[cpE,if_pos c]
     · simp[Af,elems,fq,h,cpE,c]
@[go_sem] theorem acg (id ep n : Nat) (ys : List D) : cpD H sz (.ref id ep n) ys = if b5 sz ys = true then N6 H sz id ep n 0 n ys H[id]? else none := (rfl)
@[go_sem] theorem ach (id ep n lo hi : Nat) (ys : List D) : cpD H sz (.sub id ep n lo hi) ys = if b5 sz ys = true then N6 H sz id ep n lo hi ys H[id]? else none := (rfl)
@[go_sem] theorem ZB (id n lo hi : Nat) (ys : List D) (ep : Nat) (es : List D) : N6 H sz id ep n lo hi ys (some (.arr sz false ep es)) =
 if n=es.length then(if min ys.length (hi-lo)=0 then some (.t (.int .i64 0),H)else some (.t (.int .i64 ((min ys.length (hi-lo):Nat):Int)),H.set id (.arr sz false ep (es.take lo++ys.take (min ys.length (hi-lo))++es.drop (lo+min ys.length (hi-lo))))))else none:=by
 simp[N6,OI]
end
theorem Mk{n:Int}(h1:0≤n)(h2:n<18446744073709551616):IntKind.u64.wrap n=n:=by
 have e:IntKind.u64.wrap n=n % 18446744073709551616:=by simp[IntKind.wrap,IntKind.signed,IntKind.bits]
 rw[e];omega
theorem WQ{n:Nat}(h:n<4294967296):IntKind.u64.wrap ((BitVec.ofInt IntKind.u64.bits (n:Int) &&& BitVec.ofInt IntKind.u64.bits 4294967295).toNat:Nat)=(n:Int):=by
 have e:(BitVec.ofInt IntKind.u64.bits (n:Int) &&& BitVec.ofInt IntKind.u64.bits 4294967295).toNat=n:=by
  rw[BitVec.toNat_and]
  have a:(BitVec.ofInt IntKind.u64.bits (n:Int)).toNat=n:=by
   rw[BitVec.ofInt_natCast,BitVec.toNat_ofNat]
   exact Nat.mod_eq_of_lt (Nat.lt_of_lt_of_le h (by decide))
  have b:(BitVec.ofInt IntKind.u64.bits 4294967295).toNat=2 ^ 32-1:=by decide
  rw[a,b,Nat.and_two_pow_sub_one_eq_mod]
  exact Nat.mod_eq_of_lt h
 rw[e]
 exact Mk (by omega) (by omega)
theorem WR{n:Nat}(h:n<4294967296):(n:Int).fdiv (2 ^ min (32:Int).toNat IntKind.u64.bits)=0:=by
 have e:(2 ^ min (32:Int).toNat IntKind.u64.bits:Int)=4294967296:=by decide
 rw[e,Int.fdiv_eq_ediv_of_nonneg _ (by omega)]
 omega
theorem N7{n:Nat}(h:n<4294967296):(((BitVec.ofInt IntKind.u64.bits (n:Int) &&& BitVec.ofInt IntKind.u64.bits 4294967295).toNat:Nat):Int)=(n:Int):=by
 have e:=WQ h
 rwa [Mk (by omega) (by
  have:(BitVec.ofInt IntKind.u64.bits (n:Int) &&& BitVec.ofInt IntKind.u64.bits 4294967295).toNat<2 ^ IntKind.u64.bits:=BitVec.isLt _
  have:2 ^ IntKind.u64.bits=18446744073709551616:=by decide
  omega)]at e
theorem Ml(a b:Nat)(ha:a<4294967296)(hb:b<4294967296)(h:a*b<4294967296):aO 0 N.cN [.t (.int .u64 a),.t (.int .u64 b)] []=some (.tup [.t (.int .u64 0),.t (.int .u64 ((a*b:Nat):Int))],[]):=by
 refine ay K.kJ rfl ?_
 have m:(a:Int)*(b:Int)=((a*b:Nat):Int):=(Int.natCast_mul a b).symm
 have z:=WQ (n:=0) (by omega)
 have z2:=WR (n:=0) (by omega)
 have z3:=N7 (n:=0) (by omega)
 have g3:=fun(n:Nat) (h:n<4294967296)=>N7 (n:=n) h
 have g4:=fun(n:Nat) (h:n<4294967296)=>WR (n:=n) h
 simp only[Int.ofNat_zero,Int.natCast_zero]at z z2 z3
 simp only[go_sem]at z2 z3 g3 g4
 simp (disch:=omega) only[go_sem,K.cN,↓reduceIte,g3,g4,m,z2,z3,Mk,Int.zero_mul,Int.mul_zero,Int.add_zero,Int.zero_add,Nat.reduceAdd,Nat.reduceSub]
theorem WS(a b:Nat)(ha:a<4294967296)(hb:b<4294967296)(h:a*b<4294967296):aO 0 N.dw [.t (.int .u64 a),.t (.int .u64 b)] []=some (.tup [.t (.int .u64 0),.t (.int .u64 ((a*b:Nat):Int))],[]):=by
 refine ay K.mJ rfl ?_
 have m:=Ml a b ha hb h
 simp (disch:=omega) only[go_sem,K.dw,↓reduceIte,m,Nat.reduceAdd,Nat.reduceSub]
def xf(v:Int)(n cur:Nat):List D:=List.replicate cur (I v)++List.replicate (n-cur) (I 0)
theorem FM(v:Int){n cur:Nat}(h:cur≤n):(xf v n cur).length=n:=by simp[xf];omega
theorem Jr(v:Int){n cur m:Nat}(h:cur+m≤n)(hm:m≤cur):(xf v n cur).take cur++((xf v n cur).take cur).take m++(xf v n cur).drop (cur+m)=xf v n (cur+m):=by
 unfold xf
 have e1:(List.replicate cur (I v)++List.replicate (n-cur) (I 0)).take cur=List.replicate cur (I v):=by
  rw[List.take_append_of_le_length (by simp),List.take_of_length_le (by simp)]
 have e2:(List.replicate cur (I v)++List.replicate (n-cur) (I 0)).drop (cur+m)=List.replicate (n-(cur+m)) (I 0):=by
  rw[List.drop_append,List.length_replicate]
  simp;omega
 rw[e1,e2,List.take_replicate,Nat.min_eq_left hm,List.replicate_append_replicate]
theorem WT(v:Int)(n cur:Nat):∃ts:List T,xf v n cur=ts.map .t:=⟨List.replicate cur (tI v)++List.replicate (n-cur) (tI 0),by simp[xf]⟩
theorem Cn(v:Int)(n cur:Nat)(lo k:Nat):b5 1 (((xf v n cur).drop lo).take k)=true:=by
 cases h:((xf v n cur).drop lo).take k with
 | nil=>rfl
 | cons d r=>
   have hm:d∈xf v n cur:=List.mem_of_mem_drop (List.mem_of_mem_take (h▸List.mem_cons_self))
   unfold xf at hm
   simp only[List.mem_append,List.mem_replicate]at hm
   rcases hm with⟨-,rfl⟩ | ⟨-,rfl⟩<;>rfl
theorem D4(v:Int)(n:Nat)(hn:n≤1000000):∀(k cur:Nat),n-cur≤k→1≤cur→cur≤n→
 lX true [0,1,2,3,4] (exS aO K.cO) ⟨[.und,.und,.und,.und,.und,.ref 0 0 n,I cur],[.arr 1 false 0 (xf v n cur)]⟩=
  some (.exit 0,⟨[.und,.und,.und,.und,.und,.ref 0 0 n,I n],[.arr 1 false 0 (xf v n n)]⟩):=by
 intro k
 induction k with
 | zero=>
   intro cur h1 h2 h3
   have:cur=n:=by omega
   subst this
   refine de ?_ (by simp)
   have rl:=FM v (Nat.le_refl cur)
   simp (disch:=omega) only[go_sem,K.cO,↓reduceIte,Nat.reduceAdd,Nat.reduceSub]
 | succ k ih=>
   intro cur h1 h2 h3
   by_cases c:cur=n
   · subst c
     refine de ?_ (by simp)
     simp (disch:=omega) only[go_sem,K.cO,↓reduceIte,Nat.reduceAdd,Nat.reduceSub]
   · have rl:=FM v (n:=n) (cur:=cur) (by omega)
     have st:=Jr v (n:=n) (cur:=cur) (m:=min cur (n-cur)) (by omega) (by omega)
     have hs:=Cn v n cur 0 cur
     rw[List.drop_zero]at hs
     have tl:((xf v n cur).take cur).length=cur:=by rw[List.length_take];omega
     refine jK (st2:=⟨[.und,.und,.und,.und,.und,.ref 0 0 n,I ((cur+min cur (n-cur):Nat):Int)],[.arr 1 false 0 (xf v n (cur+min cur (n-cur)))]⟩) ?_ (ih _ (by omega) (by omega) (by omega))
     rw[← st]
     obtain⟨ts,hts⟩:=WT v n cur
     have ao:∀a b c:Nat,fk 1 8 ((xf v n cur).take a)=true∧fk 1 8 (((xf v n cur).take a).take b)=true∧fk 1 8 ((xf v n cur).drop c)=true:=fun a b c=>by
      rw[hts,←List.map_take,←List.map_take,←List.map_drop]
      simp only[go_sem,and_self]
     have ao1:=fun a=>(ao a 0 0).1
     have ao2:=fun a b=>(ao a b 0).2.1
     have ao3:=fun c=>(ao 0 0 c).2.2
     clear ao hts
     generalize xf v n cur=es at*
     simp (disch:=omega) only[go_sem,K.cO,↓reduceIte,rl,hs,tl,ao1,ao2,ao3,and_self,List.drop_zero,Nat.sub_zero,Nat.reduceAdd,Nat.reduceSub]
theorem Js(v:Int)(n:Nat)(h1:1≤n)(hn:n≤1000000):aO 1 N.bc [.t (tL [v]),I n] []=some (.ref 0 0 n,[.arr 1 false 0 (List.replicate n (I v))]):=by
 refine ay K.gv rfl ?_
 have m:=WS 1 n (by omega) (by omega) (by omega)
 rw[Nat.one_mul]at m
 change aO 0 N.dw [.t (.int .u64 1),.t (.int .u64 n)] []=_ at m
 have w1:IntKind.u64.wrap 1=1:=by decide
 have w2:IntKind.u64.wrap (n:Int)=n:=Mk (by omega) (by omega)
 have w3:IntKind.i64.wrap (n:Int)=n:=uX (by omega) (by omega)
 have lp:=D4 v n hn n 1 (by omega) (by omega) h1
 have loop:∀z0 z1 z2 z3 z4:D,exS aO K.jM ⟨[z0,z1,z2,z3,z4,.ref 0 0 n,I 1],[.arr 1 false 0 (I v::List.replicate (n-1) (I 0))]⟩=some (.exit 0,⟨[.und,.und,.und,.und,.und,.ref 0 0 n,I n],[.arr 1 false 0 (List.replicate n (I v))]⟩):=by
  intro z0 z1 z2 z3 z4
  have e1:xf v n 1=I v::List.replicate (n-1) (I 0):=rfl
  have e2:xf v n n=List.replicate n (I v):=by simp[xf]
  rw[e1,e2]at lp
  exact lp
 have dr:(List.replicate n (D.t (.int .i64 0))).drop 1=List.replicate (n-1) (I 0):=List.drop_replicate ..
 have mn:min 1 n=1:=by omega
 have ar:∀H:ai,qh H 8 (List.replicate n (I v))=[]:=fun H=>by
  have e:List.replicate n (I v)=(List.replicate n (tI v)).map D.t:=by simp
  rw[e]
  unfold qh
  exact Fl ..
 simp (disch:=omega) only[go_sem,K.bc,↓reduceIte,tL,List.map_cons,List.map_nil,m,w1,w2,w3,loop,dr,mn,ar,List.length_replicate,Nat.sub_zero,List.take_zero,List.nil_append,List.take_succ_cons,Nat.zero_add,Nat.reduceAdd,Nat.reduceSub]
end Go.Ev
namespace Go.Ev
open Go
variable [Lib] [cm] [bS]
structure Spn where
 low:Int
 high:Int
instance : Dat Spn := ⟨⟨0, 0⟩⟩
abbrev Spn.e(f:Spn):T:= .agg [tI f.low,tI f.high]
def Spn.ok(f:Spn):Prop:= -1125899906842624≤f.low∧f.high≤1125899906842624∧f.low≤f.high
instance (f : Spn) : Decidable f.ok := by unfold Spn.ok; infer_instance
def Jt(m:aT)(l:List Spn):Bool:=(List.range l.length).all (fun j=>decide (nth l j).ok)&&decide (l.length=m.roads.length)
def vj(x:Road)(f:Spn)(back:Bool):Int:=
 if x.closed=true then -1 else
 let g:=if back then -f.low else f.high
 let out:=if 0<g then(x.len*x.area*1000).tdiv g else -1
 if(if back then f.low<500*x.area else -500*x.area<f.high)∧(out<0∨x.len<out)then x.len else out
def WU(l:List Int)(p q:Nat)(t:Int):Bool:=decide (0≤t∧nth l p+t<nth l q)
def aci(l:List Int)(p q:Nat)(t:Int):List Int:=if WU l p q t=true then l.set q (nth l p+t)else l
def N8(m:aT)(fl:List Spn)(k:Nat)(back:Bool)(l:List Int):List Int×Bool:=
 (aci l ((nth m.roads k).src back).toNat ((nth m.roads k).dst back).toNat (vj (nth m.roads k) (nth fl k) back),WU l ((nth m.roads k).src back).toNat ((nth m.roads k).dst back).toNat (vj (nth m.roads k) (nth fl k) back))
def WW(m:aT)(fl:List Spn)(k:Nat)(s:List Int×Bool):List Int×Bool:=
 let a:=N8 m fl k false s.1
 let b:=N8 m fl k true a.1
 (b.1,s.2||a.2||b.2)
def Ju(m:aT)(fl:List Spn)(l:List Int):Nat→List Int×Bool
 | 0=>(l,false)
 | k+1=>WW m fl k (Ju m fl l k)
def Q6(m:aT)(fl:List Spn)(l:List Int):List Int×Bool:=Ju m fl l m.roads.length
section
variable {m : aT} (h : m.ok) {fl : List Spn}
include h
end
def ZC(l:List Int):Nat→List Int
 | 0=>l
 | j+1=>if 2147483648<nth (ZC l j) j then(ZC l j).set j 1099511627776 else ZC l j
def N9(m:aT)(fl:List Spn)(l:List Int):List Int:=ZC (iT (Q6 m fl) (xb l+1) l) m.places.length
end Go.Ev
namespace Go.Ev
open Go
variable [Lib] [cm] [bS]
def plS(t x:Int):Prop:=x=1099511627776∨(t≤x∧x≤2147483648)
instance (t x : Int) : Decidable (plS t x) := by unfold plS; infer_instance
def Jv(m:aT)(s:Wh):Bool:=(List.range s.frm.length).all (fun j=>decide (plS s.time (nth s.frm j)))&&decide (s.frm.length=m.places.length∧inT s.time)
def Q7(l:List Int)(t:Int)(n:Nat):List Int:=(List.range n).map fun(p:Nat)=>if(p:Int)∈l then t else 1099511627776
@[simp] theorem WX (l : List Int) (t : Int) (n : Nat) : (Q7 l t n).length = n := by simp [Q7]
def WY(m:aT)(fl:List Spn)(l:List Int)(t:Int):Wh×Int:=
 if Jt m fl=false then(⟨0,[]⟩,6)else if oP l m.places.length=false then(⟨0,[]⟩,3)else if ¬inT t then(⟨0,[]⟩,8)else
 (⟨t,N9 m fl (Q7 l t m.places.length)⟩,0)
def Oa(m:aT)(fl:List Spn)(frm:List Int)(t:Int)(k:Nat)(back:Bool)(l:List Int):List Int:=
 if nth frm ((nth m.roads k).src back).toNat≤t∧0≤vj (nth m.roads k) (nth fl k) back then l.set ((nth m.roads k).dst back).toNat (min (nth l ((nth m.roads k).dst back).toNat) t)else l
def WZ(m:aT)(fl:List Spn)(frm:List Int)(t:Int)(k:Nat)(l:List Int):List Int:=Oa m fl frm t k true (Oa m fl frm t k false l)
def chN(m:aT)(fl:List Spn)(frm:List Int)(t:Int):Nat→List Int
 | 0=>frm
 | k+1=>WZ m fl frm t k (chN m fl frm t k)
def acj(t:Int)(l:List Int):Nat→List Int
 | 0=>l
 | k+1=>(acj t l k).set k (max (nth (acj t l k) k) t)
def Q8(m:aT)(old:List Spn)(next:aT)(fl:List Spn)(s:Wh)(t:Int):Wh×Int:=
 if Jv m s=false∨Jt m old=false∨Jt next fl=false∨next.places.length≠m.places.length then(s,6)else
 if t<s.time∨2147483648<t then(s,8)else(⟨t,N9 next fl (acj t (chN m old s.frm t m.roads.length) m.places.length)⟩,0)
end Go.Ev
namespace Go.Ev
open Go
variable [Lib] [cm] [bS] [gE] [gF]
theorem Co(a b lo hi:Int)(h1:lo≤a)(h2:a≤b)(h3:b≤hi):aO 0 N.eY [.t (.agg [tI a,tI b]),I lo,I hi] []=some (B true,[]):=by
 refine ay K.pM rfl ?_
 simp (disch:=omega) only[go_sem,K.eY,↓reduceIte,Nat.reduceAdd,Nat.reduceSub]
theorem Cp{m:aT}(h:m.ok):aO 0 N.gT [.t m.e] []=some (I 0,[]):=by
 refine ay K.qN rfl ?_
 have np:=h.np
 have nr:=h.nr
 have hs:=h.hs
 have rs:=h.rs
 obtain⟨places,roads⟩:=m
 simp only at np nr hs rs
 have l1:∀z0 z2 z3 z4 z5 z9 z10 z11:D,exS aO K.um ⟨[z0,.bp 0 0,z2,z3,z4,z5,.t (.sl (places.map Place.e)),I places.length,I 0,z9,z10,z11],[.box (af ⟨places,roads⟩)]⟩=
  some (.exit 0,⟨[.und,.bp 0 0,.und,.und,.und,.und,.t (.sl (places.map Place.e)),I places.length,I places.length,.und,.und,.und],[.box (af ⟨places,roads⟩)]⟩):=by
  intro z0 z2 z3 z4 z5 z9 z10 z11
  refine cE (fun j=>⟨[.und,.bp 0 0,.und,.und,.und,.und,.t (.sl (places.map Place.e)),I places.length,I j,.und,.und,.und],[.box (af ⟨places,roads⟩)]⟩) places.length rfl ?_ ?_ (by simp)
  · intro j hj
    have g:(places.map Place.e)[j]?=some (nth places j).e:=cZ _ hj
    have q:=hs _ (ae hj)
    generalize nth places j=x at*
    obtain⟨hh,sf⟩:=x
    simp only[af]at*
    simp (disch:=omega) only[go_sem,K.nV,↓reduceIte,g,Nat.reduceAdd,Nat.reduceSub]
  · simp (disch:=omega) only[go_sem,K.nV,↓reduceIte,af,Nat.reduceAdd,Nat.reduceSub]
 have l2:∀z0 z1 z2 z3 z5 z6 z7 z8:D,exS aO K.uo ⟨[z0,z1,z2,z3,I places.length,z5,z6,z7,z8,.t (.sl (roads.map Road.e)),I roads.length,I 0],[.box (af ⟨places,roads⟩)]⟩=
  some (.exit 2,⟨[.und,.und,.und,.und,I places.length,.und,.und,.und,.und,.t (.sl (roads.map Road.e)),I roads.length,I roads.length],[.box (af ⟨places,roads⟩)]⟩):=by
  intro z0 z1 z2 z3 z5 z6 z7 z8
  refine cE (fun j=>⟨[.und,.und,.und,.und,I places.length,.und,.und,.und,.und,.t (.sl (roads.map Road.e)),I roads.length,I j],[.box (af ⟨places,roads⟩)]⟩) roads.length rfl ?_ ?_ (by simp)
  · intro j hj
    have g:(roads.map Road.e)[j]?=some (nth roads j).e:=cZ _ hj
    have q:=rs _ (ae hj)
    generalize nth roads j=x at*
    have f0:=q.f0;have f1:=q.f1;have t0:=q.t0;have t1:=q.t1;have ne:=q.ne;have l0:=q.l0;have l1:=q.l1;have a0:=q.a0;have a1:=q.a1
    have r0:=q.r0;have r1:=q.r1;have r2:=q.r2;have i0:=q.i0;have i1:=q.i1;have i2:=q.i2
    clear q
    obtain⟨frm,to,len,area,walk,closed,rl,rh,ll,lh⟩:=x
    simp only[af]at*
    have s1:=Co rl rh 1 262144 r0 r1 r2
    have s2:=Co ll lh (-2199023255552) 2199023255552 i0 i1 i2
    simp (disch:=omega) only[go_sem,K.nW,↓reduceIte,g,s1,s2,Nat.reduceAdd,Nat.reduceSub]
  · simp (disch:=omega) only[go_sem,K.nW,↓reduceIte,af,Nat.reduceAdd,Nat.reduceSub]
 simp only[af]at l1 l2
 simp (disch:=omega) only[go_sem,K.gT,↓reduceIte,l1,l2,Nat.reduceAdd,Nat.reduceSub]
theorem kY{m:aT}(h:m.ok):aO 0 N.dL [.t m.e] []=some (B true,[]):=by
 refine ay K.qM rfl ?_
 have c:=Cp h
 obtain⟨places,roads⟩:=m
 simp (disch:=omega) only[go_sem,K.dL,↓reduceIte,c,Nat.reduceAdd,Nat.reduceSub]
end Go.Ev
namespace Go.Ev.N
def GY:Nat:=178
def GZ:Nat:=179
def HV:Nat:=180
def G0:Nat:=181
def HW:Nat:=182
def Jw:Nat:=183
def HX:Nat:=184
def Q9:Nat:=185
def Ob:Nat:=186
def Ra:Nat:=187
def Jx:Nat:=188
def eZ:Nat:=189
def dX:Nat:=190
def Oc:Nat:=191
def T1:Nat:=192
def Mm:Nat:=193
def dj:Nat:=194
def Rb:Nat:=195
def T2:Nat:=196
def W4:Nat:=197
def KY:Nat:=198
def bY:Nat:=199
def dM:Nat:=200
def cy:Nat:=201
def aX:Nat:=202
def Od:Nat:=203
def aU:Nat:=204
def bU:Nat:=205
def Rc:Nat:=206
def Oe:Nat:=207
def cP:Nat:=208
def bf:Nat:=209
def bH:Nat:=210
def gJ:Nat:=211
def jc:Nat:=212
def dY:Nat:=213
def gU:Nat:=214
end Go.Ev.N
namespace Go.Ev.K
open Go.Ev
def mK:C:=(.its [u (.bin .lss v11 v10)] [] 0 .skip (.exit 0) (.seq (.blk 1 (.seq (.reg [m v11,a 1 v9 v11,g l0,w 7 (.mv l2),w 8 (.mv l1)] []) (.reg [f 1 v6,g l0,m v8,f 1 v3,g l0,m v7,a 1 l1 l0,g l0,u (.mn [.l 5,.l 0]),u (.bs [.l 0] 1),u (.app l8 l0 true 1),f 1 v6,u (.st l0 l1 1 [])] [(1,10)]))) (.reg [u (.bin .add v11 (.i 1)),w 11 (.mv l0)] [])))
def r8:C:= .loop true [0,1,2,5,7,8] K.mK
def eZ:Fn:={ nargs:=2,vars:=[0,1,2,3,4,5,6,7,8,24,25,26],body:=(.seq (.reg [w 2 (.bx v0 2),w 3 (.bx v1 2),w 4 (.al [.t (.int .i64 (0)),.nil] []),w 5 (.mv (.i 0))] []) (.seq (.ite [f 1 v2,g l0,u (.ln l0),f 1 v3,g l0,u (.ln l0),u (.bin .neq l3 l0)] [] 0 (.seq (.reg [u (.bd [.t (.int .i64 (0)),.nil] []),u (.st v4 l0 2 []),w 5 (.mv (.i 6))] []) .ret) .skip) (.seq (.reg [f 0 v2,g l0,f 0 v3,g l0,u (.mx [.l 2,.l 0]),u (.bd [.t (.int .i64 (0)),.nil] [(0,1,.l 0)]),w 6 (.al [.t (.int .i64 (0)),.nil] [(1,1)]),u (.st l0 l1 2 [(1,1)])] []) (.seq (.seq (.reg [f 1 v2,w 9 (.ld l0 1 false),w 10 (.ln l0),w 11 (.mv (.i 0))] []) (.blk 0 K.r8)) (.seq (.reg [h 2 v6,u (.st v4 l0 2 []),w 5 (.mv (.i 0))] []) .ret))))),res:=[(4,some (2,true)),(5,none)]}
def dX:Fn:={ nargs:=2,vars:=[0,1,2,3,4],body:=(.seq (.reg [w 2 (.bx v0 2),w 3 (.bx v1 2),w 4 (.mv (.b false))] []) (.seq (.reg [h 2 v2,u (.ca N.dL 0 [] [.l 0]),m l0,y 0 true (.ld v2 2 true),y 1 true (.ld v3 2 true),y 2 true (.ca N.cy 0 [] [.l 1,.l 0]),u (.pk l3 l0 (.b false)),m l0,y 0 true (.ld v2 2 true),y 1 true (.fa v3 1),y 2 true (.ld l0 1 false),y 3 true (.fa v3 0),y 4 true (.ld l0 1 false),y 5 true (.ca N.bY 0 [] [.l 4,.l 2,.l 0,.c (.fn N.dM [])]),y 6 true (.fa v3 1),y 7 true (.ld l0 1 false),y 8 true (.ca N.aX 0 [] [.l 2,.l 0]),u (.pk l9 l0 (.b false)),w 4 (.mv l0)] [(15,6)]) .ret)),res:=[(4,none)]}
end Go.Ev.K
namespace Go.Ev
class jV [Lib]:Prop where
 pN:Lib.fs N.eZ=some K.eZ
 nX:Lib.fs N.dX=some K.dX
namespace K
variable [Lib] [jV]
theorem pN:Lib.fs N.eZ=some K.eZ:=jV.pN
theorem nX:Lib.fs N.dX=some K.dX:=jV.nX
end K
end Go.Ev
namespace Go.Ev.K
open Go.Ev
def dj:Fn:={ nargs:=3,vars:=[0,1,2,3,4,6,7],body:=(.seq (.reg [w 3 (.bx v0 2),w 4 (.bx v1 2),w 5 (.al [.t (.int .i64 (0)),.nil] []),w 6 (.mv (.i 0))] []) (.seq (.ite [h 2 v3,u (.ca N.dL 0 [] [.l 0]),u (.un .not l0),m l0,y 0 false (.ld v3 2 true),y 1 false (.ld v4 2 true),y 2 false (.ca N.cy 0 [] [.l 1,.l 0]),y 3 false (.un .not l0),u (.pk l4 (.b true) l0)] [] 0 (.seq (.reg [h 2 v4,u (.st v5 l0 2 []),w 6 (.mv (.i 6))] []) .ret) .skip) (.seq (.ite [m v2,f 0 v4,g l0,u (.bin .lss l2 l0),m l0,y 0 false (.mv v2),y 1 false (.bin .gtr l0 (.i 2147483648)),u (.pk l2 (.b true) l0)] [] 0 (.seq (.reg [h 2 v4,u (.st v5 l0 2 []),w 6 (.mv (.i 8))] []) .ret) .skip) (.seq (.reg [m v2,h 2 v3,f 1 v4,g l0,m v2,u (.ca N.bY 0 [] [.l 3,.l 1,.l 0,.c (.fn N.dM [])]),u (.bd [.t (.int .i64 (0)),.nil] [(0,1,.l 5),(1,1,.l 0)]),u (.st v5 l0 2 []),w 6 (.mv (.i 0))] []) .ret)))),res:=[(5,some (2,true)),(6,none)]}
def cI:C:=(.seq (.ite [g v9] [] 0 .skip (.exit 0)) (.seq (.blk 1 (.seq (.reg [u (.st v9 (.b false) 1 [])] []) (.reg [h 2 v4,g v8,u (.mf N.bf [.v 5,.v 8,.v 6,.v 9]),u (.ca N.cP 0 [1] [.l 2,.l 1,.l 0])] []))) (.seq (.reg [w 10 (.ld v9 1 false)] []) (.reg [w 9 (.al [.t (.bool false)] []),u (.st l0 v10 1 [])] []))))
def kK:C:= .loop false [0,1,2,3,7,10] K.cI
def bY:Fn:={ nargs:=4,vars:=[0,1,2,3,4,6,7,8,9,10,18],body:=(.seq (.reg [w 4 (.bx v0 2),w 5 (.bx v2 1),w 6 (.bx v3 1),w 7 (.mv (.c (.nil)))] []) (.seq (.reg [m v1,u (.ca N.aU 1 [] [.l 0]),w 8 (.al [.nil] []),u (.st l0 l1 1 [])] []) (.seq (.seq (.reg [w 9 (.al [.t (.bool false)] []),u (.st l0 (.b true) 1 [])] []) (.blk 0 K.kK)) (.seq (.reg [g v8,w 7 (.mv l0)] []) .ret)))),res:=[(7,none)]}
def dM:Fn:={ nargs:=1,vars:=[2],body:=(.seq (.reg [w 0 (.mv (.b false))] []) (.seq (.reg [w 0 (.mv (.b true))] []) .ret)),res:=[(0,none)]}
def cy:Fn:={ nargs:=2,vars:=[0,1,2,3,4],body:=(.seq (.reg [w 2 (.bx v0 2),w 3 (.bx v1 2),w 4 (.mv (.b false))] []) (.seq (.reg [f 1 v3,g l0,u (.ln l0),f 0 v2,g l0,u (.ln l0),u (.bin .eql l3 l0),m l0,y 0 true (.fa v3 0),y 1 true (.ld l0 1 false),y 2 true (.ca N.eI 0 [] [.l 0,.i 0,.i 2147483648]),u (.pk l3 l0 (.b false)),m l0,y 0 true (.fa v3 1),y 1 true (.ld l0 1 false),y 2 true (.ca N.aF 0 [] [.l 0,.c (.fn N.bH [])]),y 3 true (.un .not l0),u (.pk l4 l0 (.b false)),w 4 (.mv l0)] []) .ret)),res:=[(4,none)]}
def eh:C:=(.its [u (.bin .lss v5 v4)] [] 0 .skip (.exit 0) (.seq (.blk 1 (.seq (.reg [m v5,w 3 (.mv l0)] []) (.ite [m v0,m v3,a 1 l1 l0,g l0,m v1,m v3,a 1 l1 l0,g l0,u (.bin .neq l4 l0)] [] 0 (.seq (.reg [w 2 (.mv (.b false))] []) .ret) .skip))) (.reg [u (.bin .add v5 (.i 1)),w 5 (.mv l0)] [])))
def ka:C:= .loop true [2,3] K.eh
def aX:Fn:={ nargs:=2,vars:=[0,1,4,5,12,13],body:=(.seq (.reg [w 2 (.mv (.b false))] []) (.seq (.ite [m v0,u (.ln l0),m v1,u (.ln l0),u (.bin .neq l2 l0)] [] 0 (.seq (.reg [w 2 (.mv (.b false))] []) .ret) .skip) (.seq (.seq (.reg [m v0,w 4 (.ln l0),w 5 (.mv (.i 0))] []) (.blk 0 K.ka)) (.seq (.reg [w 2 (.mv (.b true))] []) .ret)))),res:=[(2,none)]}
def aU:Fn:={ nargs:=1,vars:=[0,2],body:=(.seq (.reg [w 1 (.mv (.c (.nil)))] []) (.itk [m v0,u (.eqk (.sl) false l0 (.c (.nil)))] [] 0 (.seq (.reg [w 1 (.nw 1)] []) .ret) .skip (.seq (.reg [u (.bsr [] 1),m v0,u (.app l1 l0 false 1),w 1 (.mv l0)] []) .ret))),res:=[(1,none)]}
def bU:Fn:={ nargs:=2,vars:=[0,1,3],body:=(.seq (.reg [w 2 (.mv (.b false))] []) (.seq (.reg [g v1,m v0,u (.ca N.aS 0 [] [.l 1,.l 0]),w 2 (.mv l0)] []) .ret)),res:=[(2,none)]}
def dN:C:=(.its [u (.bin .lss v14 (.i 2))] [] 0 .skip (.exit 2) (.seq (.blk 3 (.seq (.reg [u (.ix v13 v14 2 1 false),w 6 (.mv l0)] []) (.seq (.reg [f 0 v5,g l0,f 1 v5,g l0,w 7 (.mv l2),w 8 (.mv l1)] []) (.seq (.ite [m v6] [] 0 (.reg [m v8,m v7,w 7 (.mv l1),w 8 (.mv l1)] []) .skip) (.seq (.reg [h 2 v3,m v4,m v6,u (.ca N.gJ 0 [] [.l 2,.l 1,.l 0]),w 9 (.mv l0)] []) (.ite [m v9,u (.bin .geq l0 (.i 0)),m l0,y 0 true (.mv v1),y 1 true (.mv v7),y 2 true (.ia l1 l0 1),y 3 true (.ld l0 1 false),y 4 true (.bin .lss l0 (.i 1099511627776)),u (.pk l5 l0 (.b false))] [] 0 (.reg [m v2,m v7,m v8,m v1,m v7,a 1 l1 l0,g l0,m v9,u (.bin .add l1 l0),u (.cw l8 0 [] [.l 7,.l 6,.l 0])] []) .skip)))))) (.reg [u (.bin .add v14 (.i 1)),w 14 (.mv l0)] [])))
def nq:C:= .loop true [0,6,7,8,9] K.dN
def gw:C:=(.its [u (.bin .lss v12 v11)] [] 0 .skip (.exit 0) (.seq (.blk 1 (.seq (.reg [m v12,a 10 v10 v12,h 10 l0,w 5 (.al [.t (.int .i64 (0)),.t (.int .i64 (0)),.t (.int .i64 (0)),.t (.int .i64 (0)),.t (.bool false),.t (.bool false),.t (.int .i64 (0)),.t (.int .i64 (0)),.t (.int .i64 (0)),.t (.int .i64 (0))] []),w 4 (.mv l3),u (.st l1 l2 10 [])] []) (.seq (.reg [w 13 (.bd [.t (.bool false),.t (.bool false)] [(0,1,.b false),(1,1,.b true)]),w 14 (.mv (.i 0))] []) (.blk 2 K.nq)))) (.reg [u (.bin .add v12 (.i 1)),w 12 (.mv l0)] [])))
def ns:C:= .loop true [0,4,5,6,7,8,9,13,14] K.gw
def cP:Fn:={ nargs:=3,vars:=[0,1,2,3,6,7,9,10,11,12,14,15,16,21,22],body:=(.seq (.reg [w 3 (.bx v0 2)] []) (.seq (.reg [f 1 v3,w 10 (.ld l0 1 false),w 11 (.ln l0),w 12 (.mv (.i 0))] []) (.blk 0 K.ns))),res:=[]}
def bf:Fn:={ nargs:=7,vars:=[1,2,3,4,5,6],body:=(.seq (.reg [m v1,g v2,u (.mx [.l 1,.l 0]),w 1 (.mv l0)] []) (.ite [m v1,u (.bin .leq l0 (.i 2147483648)),m l0,y 0 true (.mv v1),y 1 true (.ld v3 1 false),y 2 true (.mv v0),y 3 true (.ia l1 l0 1),y 4 true (.ld l0 1 false),y 5 true (.bin .lss l4 l0),u (.pk l6 l0 (.b false)),m l0,y 0 true (.ld v4 1 false),y 1 true (.mv v0),y 2 true (.cw l1 0 [] [.l 0]),u (.pk l3 l0 (.b false))] [] 0 (.reg [g v3,m v0,m v1,a 1 l2 l1,u (.st l0 l1 1 []),u (.st v5 (.b true) 1 [])] []) .skip)),res:=[]}
def bH:Fn:={ nargs:=1,vars:=[0,2],body:=(.seq (.reg [w 1 (.mv (.b false))] []) (.seq (.reg [m v0,u (.bin .neq l0 (.i 1099511627776)),m l0,y 0 true (.mv v0),y 1 true (.ca N.eI 0 [] [.l 0,.i 0,.i 2147483648]),y 2 true (.un .not l0),u (.pk l3 l0 (.b false)),w 1 (.mv l0)] []) .ret)),res:=[(1,none)]}
def gJ:Fn:={ nargs:=3,vars:=[0,1,2,3,6],body:=(.seq (.reg [w 3 (.bx v0 2),w 4 (.mv (.i 0))] []) (.seq (.ite [h 2 v3,u (.ca N.dL 0 [] [.l 0]),u (.un .not l0),m l0,y 0 false (.mv v1),y 1 false (.bin .lss l0 (.i 0)),u (.pk l2 (.b true) l0),m l0,y 0 false (.mv v1),y 1 false (.fa v3 1),y 2 false (.ld l0 1 false),y 3 false (.ln l0),y 4 false (.bin .geq l3 l0),u (.pk l5 (.b true) l0)] [] 0 (.seq (.reg [w 4 (.mv (.i (-1)))] []) .ret) .skip) (.seq (.reg [h 2 v3,m v1,m v2,u (.ca N.jc 0 [] [.l 2,.l 1,.l 0]),w 4 (.mv l0)] []) .ret))),res:=[(4,none)]}
def jc:Fn:={ nargs:=3,vars:=[0,1,2,3,6],body:=(.seq (.reg [w 3 (.bx v0 2),w 4 (.mv (.i 0))] []) (.seq (.reg [h 2 v3,m v1,m v2,u (.ca N.gU 0 [] []),u (.ca N.dY 0 [] [.l 3,.l 2,.l 1,.l 0]),w 4 (.mv l0)] [(0,4)]) .ret)),res:=[(4,none)]}
def dY:Fn:={ nargs:=4,vars:=[0,1,2,3,4,7,8,9,10,11],body:=(.seq (.reg [w 4 (.bx v0 2),w 5 (.bx v3 3),w 6 (.mv (.i 0))] []) (.seq (.reg [f 1 v4,g l0,m v1,a 10 l1 l0,h 10 l0,w 7 (.al [.t (.int .i64 (0)),.t (.int .i64 (0)),.t (.int .i64 (0)),.t (.int .i64 (0)),.t (.bool false),.t (.bool false),.t (.int .i64 (0)),.t (.int .i64 (0)),.t (.int .i64 (0)),.t (.int .i64 (0))] []),u (.st l0 l1 10 [])] []) (.seq (.ite [f 5 v7,g l0,m l0,y 0 false (.fa v7 4),y 1 false (.ld l0 1 false),y 2 false (.un .not l0),u (.pk l3 (.b true) l0)] [] 0 (.seq (.reg [w 6 (.mv (.i (-1)))] []) .ret) .skip) (.seq (.reg [f 0 v4,g l0,f 1 v7,g l0,a 2 l2 l0,f 0 l0,g l0,f 0 v4,g l0,f 0 v7,g l0,a 2 l2 l0,f 0 l0,g l0,u (.bin .sub l7 l0),w 8 (.mv l0)] []) (.seq (.ite [m v2] [] 0 (.reg [m v8,u (.un .neg l0),w 8 (.mv l0)] []) .skip) (.seq (.reg [f 2 v5,g l0,w 9 (.mv l0)] []) (.seq (.blk 0 (.ite [m v8,u (.bin .mul (.i 10) l0),f 2 v7,g l0,u (.bin .gtr l2 l0),m l0] [] 0 (.reg [f 0 v5,g l0,w 9 (.mv l0)] []) (.ite [m v8,u (.bin .mul (.i (-10)) l0),f 2 v7,g l0,u (.bin .gtr l2 l0),m l0] [] 0 (.reg [f 1 v5,g l0,w 9 (.mv l0)] []) .skip))) (.seq (.reg [f 2 v7,g l0,u (.bin .mul (.i 10) l0),m v9,u (.bin .add l1 l0),u (.bin .sub l0 (.i 1)),m v9,u (.bin .quo l1 l0),w 6 (.mv l0)] []) .ret)))))))),res:=[(6,none)]}
def gU:Fn:={ nargs:=0,vars:=[0],body:=(.seq (.reg [w 0 (.al [.t (.int .i64 (0)),.t (.int .i64 (0)),.t (.int .i64 (0))] [])] []) (.seq (.reg [u (.bd [.t (.int .i64 (0)),.t (.int .i64 (0)),.t (.int .i64 (0))] [(0,1,.i 6),(1,1,.i 9),(2,1,.i 12)]),u (.st v0 l0 3 [])] []) .ret)),res:=[(0,some (3,true))]}
end Go.Ev.K
namespace Go.Ev
class iu [Lib]:Prop where
 nY:Lib.fs N.dj=some K.dj
 jw:Lib.fs N.bY=some K.bY
 qO:Lib.fs N.dM=some K.dM
 mL:Lib.fs N.cy=some K.cy
 gX:Lib.fs N.aX=some K.aX
 gY:Lib.fs N.aU=some K.aU
 kL:Lib.fs N.bU=some K.bU
 kM:Lib.fs N.cP=some K.cP
 kc:Lib.fs N.bf=some K.bf
 kN:Lib.fs N.bH=some K.bH
 sR:Lib.fs N.gJ=some K.gJ
 sT:Lib.fs N.jc=some K.jc
 sU:Lib.fs N.dY=some K.dY
 qP:Lib.fs N.gU=some K.gU
namespace K
variable [Lib] [iu]
theorem nY:Lib.fs N.dj=some K.dj:=iu.nY
theorem jw:Lib.fs N.bY=some K.bY:=iu.jw
theorem qO:Lib.fs N.dM=some K.dM:=iu.qO
theorem mL:Lib.fs N.cy=some K.cy:=iu.mL
theorem gX:Lib.fs N.aX=some K.aX:=iu.gX
theorem gY:Lib.fs N.aU=some K.aU:=iu.gY
theorem kL:Lib.fs N.bU=some K.bU:=iu.kL
theorem kM:Lib.fs N.cP=some K.cP:=iu.kM
theorem kc:Lib.fs N.bf=some K.bf:=iu.kc
theorem kN:Lib.fs N.bH=some K.bH:=iu.kN
theorem sR:Lib.fs N.gJ=some K.gJ:=iu.sR
theorem sT:Lib.fs N.jc=some K.jc:=iu.sT
theorem sU:Lib.fs N.dY=some K.dY:=iu.sU
theorem qP:Lib.fs N.gU=some K.gU:=iu.qP
end K
end Go.Ev
namespace Go.Ev
open Go
variable [Lib] [cm] [bS] [gE] [gF] [jV] [iu]
abbrev Dk(l:List Int):Obj:= .arr 1 false 0 ((l.map (T.int .i64)).map .t)
theorem yh(l:List Int)(hl:l.length≤1000000):aO 1 N.aU [.t (tL l)] []=some (.ref 0 0 l.length,[Dk l]):=by
 refine ay K.gY rfl ?_
 by_cases h0:l=[]
 · subst h0
   simp only[tL,List.map_nil]
   simp (disch:=omega) only[go_sem,K.aU,↓reduceIte,List.map_nil,List.length_nil,Nat.reduceAdd,Nat.reduceSub]
   rfl
 · have e:=fun H=>xa H (l.map (T.int .i64)) (by simpa using h0)
   simp (disch:=omega) only[go_sem,K.aU,↓reduceIte,e,Nat.reduceAdd,Nat.reduceSub]
theorem xg(a b:List Int)(hl:a.length≤4294967296)(hl2:b.length≤4294967296):aO 0 N.aX [.t (tL a),.t (tL b)] []=some (B (decide (a=b)),[]):=by
 refine ay K.gX rfl ?_
 by_cases hlen:a.length=b.length
 · have loop:∀z2 z3:D,exS aO K.ka ⟨[.t (tL a),.t (tL b),z2,z3,I a.length,I 0],[]⟩=
    some (match (List.range a.length).find? (fun j=>decide (nth a j≠nth b j))with
     | some j=>(.ret,⟨[.t (tL a),.t (tL b),B false,I j,I a.length,I j],[]⟩)
     | none=>(.exit 0,⟨[.t (tL a),.t (tL b),.und,.und,I a.length,I a.length],[]⟩)):=by
    intro z2 z3
    refine cu (fun j=>⟨[.t (tL a),.t (tL b),.und,.und,I a.length,I j],[]⟩) a.length (fun j=>decide (nth a j≠nth b j)) _ _ rfl ?_ ?_ ?_ (by simp)
    · intro j hj hp
      have hp:nth a j=nth b j:=by simpa using hp
      simp (disch:=omega) only[go_sem,K.eh,↓reduceIte,Nat.reduceAdd,Nat.reduceSub]
    · intro j hj hp
      have hp:nth a j≠nth b j:=by simpa using hp
      simp (disch:=omega) only[go_sem,K.eh,↓reduceIte,Nat.reduceAdd,Nat.reduceSub]
      simp
    · simp (disch:=omega) only[go_sem,K.eh,↓reduceIte,Nat.reduceAdd,Nat.reduceSub]
   have e:(a=b)↔(List.range a.length).find? (fun j=>decide (nth a j≠nth b j))=none:=by
    rw[List.find?_eq_none]
    constructor
    · intro h j _;simp[h]
    · intro h
      apply List.ext_getElem?
      intro j
      by_cases hj:j<a.length
      · rw[jv hj,jv (by omega)]
        have:=h j (List.mem_range.2 hj)
        simpa using this
      · rw[List.getElem?_eq_none (by omega),List.getElem?_eq_none (by omega)]
   cases hf:(List.range a.length).find? (fun j=>decide (nth a j≠nth b j))with
   | some j=>
     rw[hf]at e loop
     have e:¬a=b:=fun h=>by have:=e.1 h;cases this
     simp (disch:=omega) only[go_sem,K.aX,↓reduceIte,loop,e,decide_false,Nat.reduceAdd,Nat.reduceSub]
   | none=>
     rw[hf]at e loop
     have e:a=b:=e.2 rfl
     simp (disch:=omega) only[go_sem,K.aX,↓reduceIte,loop,decide_eq_true e,Nat.reduceAdd,Nat.reduceSub]
 · have hne:a≠b:=fun h=>hlen (by rw[h])
   simp (disch:=omega) only[go_sem,K.aX,↓reduceIte,hne,decide_false,Nat.reduceAdd,Nat.reduceSub]
theorem Mn:aO 0 N.gU [] []=some (.t (.agg [tI 6,tI 9,tI 12]),[]):=by
 refine ay K.qP rfl ?_
 simp (disch:=omega) only[go_sem,K.gU,↓reduceIte,Nat.reduceAdd,Nat.reduceSub]
theorem Re{m:aT}(h:m.ok)(k:Nat)(hk:k<m.roads.length)(back:Bool)(up down level:Int)(hu:1≤up)(hu2:up≤100)(hd:1≤down)(hd2:down≤100)(hl:1≤level)(hl2:level≤100):
 aO 0 N.dY [.t m.e,I k,B back,.t (.agg [tI up,tI down,tI level])] []=some (I (eX m k back up down level),[]):=by
 refine ay K.sU rfl ?_
 have nr:=h.nr
 have np:=h.np
 obtain⟨f0,f1,t0,t1, -,l0,l1, -, -, -, -, -, -, -, -⟩:=h.rs _ (ae hk)
 have b1:=h.hs _ (ae (l:=m.places) (j:=(nth m.roads k).frm.toNat) (by omega))
 have b2:=h.hs _ (ae (l:=m.places) (j:=(nth m.roads k).to.toNat) (by omega))
 have g:(m.roads.map Road.e)[k]?=some (nth m.roads k).e:=cZ _ hk
 have p1:(m.places.map Place.e)[(nth m.roads k).frm.toNat]?=some (nth m.places (nth m.roads k).frm.toNat).e:=cZ _ (by omega)
 have p2:(m.places.map Place.e)[(nth m.roads k).to.toNat]?=some (nth m.places (nth m.roads k).to.toNat).e:=cZ _ (by omega)
 have key:∀h1 h2:Int, -10000≤h1→h1≤10000→ -10000≤h2→h2≤10000→IntKind.i64.wrap (h1-h2)=h1-h2∧IntKind.i64.wrap (-(h1-h2))=h2-h1:=fun h1 h2 _ _ _ _=>⟨uX (by omega) (by omega),by rw[uX (by omega) (by omega)];omega⟩
 unfold eX
 generalize nth m.roads k=x at*
 obtain⟨frm,to,len,area,walk,closed,rl,rh,ll,lh⟩:=x
 simp only at f0 f1 t0 t1 l0 l1 b1 b2 p1 p2 ⊢
 cases closed with
 | true=>
   obtain⟨places,roads⟩:=m
   simp (disch:=omega) only[go_sem,K.dY,↓reduceIte,g,Nat.reduceAdd,Nat.reduceSub]
 | false=>
   cases walk with
   | false=>
     obtain⟨places,roads⟩:=m
     simp (disch:=omega) only[go_sem,K.dY,↓reduceIte,g,Nat.reduceAdd,Nat.reduceSub]
   | true=>
     have g1:=sO (a:=10*len+up-1) (b:=up) (by omega) hu
     have g2:=sO (a:=10*len+down-1) (b:=down) (by omega) hd
     have g3:=sO (a:=10*len+level-1) (b:=level) (by omega) hl
     cases back with
     | true=>
       simp only[↓reduceIte]
       generalize nth m.places frm.toNat=q1 at*
       generalize nth m.places to.toNat=q2 at*
       obtain⟨h1,s1⟩:=q1
       obtain⟨h2,s2⟩:=q2
       obtain⟨places,roads⟩:=m
       simp only at*
       obtain⟨w2,w3⟩:=key h2 h1 (by omega) (by omega) (by omega) (by omega)
       by_cases c2:len< -10*(h1-h2)
       · simp (disch:=omega) only[go_sem,K.dY,↓reduceIte,g,p1,p2,w2,w3,gt_iff_lt,Int.zero_sub,Nat.reduceAdd,Nat.reduceSub]
       · by_cases c1:len<10*(h1-h2)
         · simp (disch:=omega) only[go_sem,K.dY,↓reduceIte,g,p1,p2,w2,w3,gt_iff_lt,Int.zero_sub,Nat.reduceAdd,Nat.reduceSub]
         · simp (disch:=omega) only[go_sem,K.dY,↓reduceIte,g,p1,p2,w2,w3,gt_iff_lt,Int.zero_sub,Nat.reduceAdd,Nat.reduceSub]
     | false=>
       simp only[Bool.false_eq_true,↓reduceIte]
       generalize nth m.places frm.toNat=q1 at*
       generalize nth m.places to.toNat=q2 at*
       obtain⟨h1,s1⟩:=q1
       obtain⟨h2,s2⟩:=q2
       obtain⟨places,roads⟩:=m
       simp only at*
       obtain⟨w2,w3⟩:=key h2 h1 (by omega) (by omega) (by omega) (by omega)
       by_cases c2:len< -10*(h2-h1)
       · simp (disch:=omega) only[go_sem,K.dY,↓reduceIte,g,p1,p2,w2,gt_iff_lt,Nat.reduceAdd,Nat.reduceSub]
       · by_cases c1:len<10*(h2-h1)
         · simp (disch:=omega) only[go_sem,K.dY,↓reduceIte,g,p1,p2,w2,gt_iff_lt,Nat.reduceAdd,Nat.reduceSub]
         · simp (disch:=omega) only[go_sem,K.dY,↓reduceIte,g,p1,p2,w2,gt_iff_lt,Nat.reduceAdd,Nat.reduceSub]
theorem Mo{m:aT}(h:m.ok)(k:Nat)(hk:k<m.roads.length)(back:Bool):aO 0 N.gJ [.t m.e,I k,B back] []=some (I (eX m k back 6 9 12),[]):=by
 have q:=Mn
 have w:=Re h k hk back 6 9 12 (by omega) (by omega) (by omega) (by omega) (by omega) (by omega)
 have v:=kY h
 have nr:=h.nr
 have s:aO 0 N.jc [.t m.e,I k,B back] []=some (I (eX m k back 6 9 12),[]):=by
  refine ay K.sT rfl ?_
  generalize eX m k back 6 9 12=r at*
  obtain⟨places,roads⟩:=m
  simp (disch:=omega) only[go_sem,K.jc,↓reduceIte,q,w,Nat.reduceAdd,Nat.reduceSub]
 refine ay K.sR rfl ?_
 generalize eX m k back 6 9 12=r at*
 obtain⟨places,roads⟩:=m
 simp only at*
 simp (disch:=omega) only[go_sem,K.gJ,↓reduceIte,v,s,Nat.reduceAdd,Nat.reduceSub]
theorem Rf(q:Int):aO 0 N.dM [I q] []=some (B true,[]):=by
 refine ay K.qO rfl ?_
 simp (disch:=omega) only[go_sem,K.dM,↓reduceIte,Nat.reduceAdd,Nat.reduceSub]
theorem Mp(q:Int)(l:List Int)(hl:l.length≤4294967296):aO 0 N.bU [I q,.bp 0 0] [.box [.t (tL l)]]=some (B (decide (q∈l)),[.box [.t (tL l)]]):=by
 refine ay K.kL rfl ?_
 have c:=DZ l q hl
 simp (disch:=omega) only[go_sem,K.bU,↓reduceIte,c,Nat.reduceAdd,Nat.reduceSub]
def smE(into:Option (List Int)):ai:=match into with
 | none=>[]
 | some s=>[.box [.t (tL s)]]
def smD(into:Option (List Int)):D:=match into with
 | none=> .fn N.dM []
 | some _=> .fn N.bU [.bp 5 0]
def smK(into:Option (List Int)):Nat:=match into with
 | none=>5
 | some _=>6
@[go_sem] theorem adA (H : ai) (len j : Nat) (ts : List T) (h : j < len) : Vq H len 1 false (.t (.agg ts)) j = (ts[j]?).map fun t => (.t t, H) := by
 have h0:len≠0:=by omega
 unfold Vq zj
 rw[if_neg h0,if_pos h]
 unfold tn cut
 simp only[D.isAgg,D.cells,T.cells,if_true,Nat.mul_one,List.length_map]
 by_cases hj:j<ts.length
 · rw[if_pos (by omega),List.getElem?_eq_getElem hj]
   have e:((ts.map D.t).drop j).take 1=[D.t ts[j]]:=by
    rw[List.drop_eq_getElem_cons (by simpa using hj)];simp
   rw[e];rfl
 · rw[if_neg (by omega),List.getElem?_eq_none (by omega)];rfl
def Jy(into:Option (List Int))(l:List Int)(q:Nat)(x:Int):Bool:=decide (x≤2147483648∧x<nth l q)&&Ja into q
theorem Rg(into:Option (List Int))(hi:∀s,into=some s→s.length≤64)(l:List Int)(hl:l.length≤64)(hb:bnd l)(p:Int)(q:Nat)(hq:q<l.length)(n t:Int)(ch:Bool):
 aO 0 N.bf [I p,I q,I n,.bp 0 0,.bp 1 0,.bp 2 0,.bp 3 0] (.box [I t]:: .box [.ref 4 0 l.length]:: .box [smD into]:: .box [B ch]::Dk l::smE into)=
  some (.tup [],if Jy into l q (max n t)=true then .box [I t]:: .box [.ref 4 0 l.length]:: .box [smD into]:: .box [B true]::Dk (l.set q (max n t))::smE into
   else .box [I t]:: .box [.ref 4 0 l.length]:: .box [smD into]:: .box [B ch]::Dk l::smE into):=by
 refine ay K.kc rfl ?_
 have ln:(l.set q (max n t)).length=l.length:=List.length_set ..
 have a:=Rf q
 have b:=hb _ (ae hq)
 unfold Jy
 cases into with
 | none=>
   simp only[smE,smD,Ja,Bool.and_true,decide_eq_true_eq]
   by_cases c1:max n t≤2147483648
   · by_cases c2:max n t<nth l q
     · simp (disch:=omega) only[go_sem,K.bf,↓reduceIte,a,c1,c2,and_self,Nat.reduceAdd,Nat.reduceSub]
     · simp (disch:=omega) only[go_sem,K.bf,↓reduceIte,c1,c2,and_false,Nat.reduceAdd,Nat.reduceSub]
   · simp (disch:=omega) only[go_sem,K.bf,↓reduceIte,c1,false_and,Nat.reduceAdd,Nat.reduceSub]
 | some s=>
   have a2:=Mp q s (by have:=hi s rfl;omega)
   simp only[smE,smD,Ja]
   by_cases c1:max n t≤2147483648
   · by_cases c2:max n t<nth l q
     · by_cases c3:(q:Int)∈s
       · simp only[c3,decide_true]at a2
         simp (disch:=omega) only[go_sem,K.bf,↓reduceIte,a2,c1,c2,c3,and_self,decide_true,Bool.and_true,Nat.reduceAdd,Nat.reduceSub]
       · simp only[c3,decide_false]at a2
         simp (disch:=omega) only[go_sem,K.bf,↓reduceIte,a2,c1,c2,c3,and_self,decide_false,Bool.and_false,Nat.reduceAdd,Nat.reduceSub]
     · simp (disch:=omega) only[go_sem,K.bf,↓reduceIte,c1,c2,and_false,decide_false,Bool.false_and,Nat.reduceAdd,Nat.reduceSub]
   · simp (disch:=omega) only[go_sem,K.bf,↓reduceIte,c1,false_and,decide_false,Bool.false_and,Nat.reduceAdd,Nat.reduceSub]
theorem Mq{m:aT}(h:m.ok)(t:Int)(into:Option (List Int)){k:Nat}(hk:k<m.roads.length)(back:Bool)(l:List Int):
 eE m t into k back l=if 0≤eX m k back 6 9 12∧nth l ((nth m.roads k).src back).toNat<1099511627776∧Jy into l ((nth m.roads k).dst back).toNat (max (nth l ((nth m.roads k).src back).toNat+eX m k back 6 9 12) t)=true
  then(l.set ((nth m.roads k).dst back).toNat (max (nth l ((nth m.roads k).src back).toNat+eX m k back 6 9 12) t),true)else(l,false):=by
 have r2:=Road.zD (h.rs _ (ae hk)) back
 unfold eE Jy mG lO
 have e:(((nth m.roads k).dst back).toNat:Int)=(nth m.roads k).dst back:=by omega
 rw[e]
 generalize (nth m.roads k).dst back=d at*
 generalize ((nth m.roads k).src back).toNat=s at*
 generalize eX m k back 6 9 12=v at*
 rw[Int.max_comm t]
 generalize max (nth l s+v) t=x at*
 cases Ja into d with
 | false=>simp
 | true=>
   simp only[↓reduceIte,Bool.and_true,Bool.and_eq_true,decide_eq_true_eq]
   by_cases c:((0≤v∧nth l s<1099511627776)∧x≤2147483648)∧x<nth l d.toNat
   · obtain⟨⟨⟨c1,c2⟩,c3⟩,c4⟩:=c
     simp[c1,c2,c3,c4]
   · have c':¬(0≤v∧nth l s<1099511627776∧x≤2147483648∧x<nth l d.toNat):=fun h=>c ⟨⟨⟨h.1,h.2.1⟩,h.2.2.1⟩,h.2.2.2⟩
     rw[if_neg c,if_neg c']
     simp only[Prod.mk.injEq,true_and]
     have:(decide (0≤v)&&decide (nth l s<1099511627776)&&decide (x≤2147483648)&&decide (x<nth l d.toNat))=false:=by
      rw[Bool.eq_false_iff];intro h;simp only[Bool.and_eq_true,decide_eq_true_eq]at h;exact c h
     exact this
abbrev Jz:D:= .fn N.bf [.bp 1 0,.bp 2 0,.bp 3 0,.bp 4 0]
abbrev yi(into:Option (List Int))(t:Int)(s:List Int×Bool):ai:=Dk s.1:: .box [I t]:: .box [.ref 0 0 s.1.length]:: .box [smD into]:: .box [B s.2]::smE into
abbrev vk(x:Road):List D:=[I x.frm,I x.to,I x.len,I x.area,B x.walk,B x.closed,I x.restL,I x.restH,I x.liftL,I x.liftH]
theorem zK{m:aT}(h:m.ok)(t:Int)(ht:0≤t)(ht2:t≤1000000000000)(into:Option (List Int))(hi:∀s,into=some s→s.length≤64)(l:List Int)(hl:l.length=m.places.length)(hb:bnd l)(ch:Bool){k:Nat}(hk:k<m.roads.length)(back:Bool):
 eO true [0,6,7,8,9] (yi into t (l,ch)++[Obj.box (af m),Obj.box (vk (nth m.roads k))]).length (exS aO K.dN ⟨[.und,.ref 0 0 l.length,Jz,.bp (smK into) 0,I k,.bp (smK into+1) 0,.und,.und,.und,.und,.t (.sl (m.roads.map Road.e)),I m.roads.length,I k,.t (.agg [.bool false,.bool true]),I (if back then 1 else 0:Nat)],yi into t (l,ch)++[.box (af m),.box (vk (nth m.roads k))]⟩)=
  some ⟨[.und,.ref 0 0 l.length,Jz,.bp (smK into) 0,I k,.bp (smK into+1) 0,.und,.und,.und,.und,.t (.sl (m.roads.map Road.e)),I m.roads.length,I k,.t (.agg [.bool false,.bool true]),I ((if back then 1 else 0:Nat)+1)],yi into t ((eE m t into k back l).1,ch||(eE m t into k back l).2)++[.box (af m),.box (vk (nth m.roads k))]⟩:=by
 have np:=h.np
 have nr:=h.nr
 have ok:=h.rs _ (ae hk)
 have r1:=Road.vG ok back
 have r2:=Road.zD ok back
 have wt:=Mo h k hk back
 have wl:=AE h k hk back
 have b1:=hb _ (ae (l:=l) (j:=((nth m.roads k).src back).toNat) (by omega))
 have lo:=Rg into hi l (by omega) hb ((nth m.roads k).src back) ((nth m.roads k).dst back).toNat (by omega) (nth l ((nth m.roads k).src back).toNat+eX m k back 6 9 12) t ch
 have e:(((nth m.roads k).dst back).toNat:Int)=(nth m.roads k).dst back:=by omega
 rw[e]at lo
 rw[Mq h t into hk back l]
 have ls:∀x,(l.set ((nth m.roads k).dst back).toNat x).length=l.length:=fun x=>List.length_set ..
 generalize eX m k back 6 9 12=v at*
 generalize hx:nth m.roads k=x at*
 clear hx ok
 obtain⟨frm,to,len,area,walk,closed,rl,rh,ll,lh⟩:=x
 obtain⟨places,roads⟩:=m
 simp only at hl np nr hk
 have h01:(1:Int)=0+1:=rfl
 by_cases c1:0≤v
 · by_cases c2:nth l ((Road.mk frm to len area walk closed rl rh ll lh).src back).toNat<1099511627776
   · cases c3:Jy into l ((Road.mk frm to len area walk closed rl rh ll lh).dst back).toNat (max (nth l ((Road.mk frm to len area walk closed rl rh ll lh).src back).toNat+v) t)<;>
     cases back<;>simp only[Road.src,Road.dst,Bool.false_eq_true,↓reduceIte]at* <;>simp only[c1,c2,c3,and_true,true_and,and_self,and_false,Bool.false_eq_true,↓reduceIte]at lo ⊢ <;>
     cases into<;>simp only[smE,smD,smK,af,vk,yi,List.cons_append,List.nil_append]at* <;>
     simp (disch:=omega) only[go_sem,K.dN,↓reduceIte,wt,lo,c1,c2,ls,Bool.or_true,Bool.or_false,Nat.reduceAdd,Nat.reduceSub]
   · cases back<;>simp only[Road.src,Road.dst,Bool.false_eq_true,↓reduceIte]at* <;>simp only[c1,c2,false_and,and_false,↓reduceIte]<;>
     cases into<;>simp only[smE,smD,smK,af,vk,yi,List.cons_append,List.nil_append]at* <;>
     simp (disch:=omega) only[go_sem,K.dN,↓reduceIte,wt,c1,c2,Bool.or_false,Nat.reduceAdd,Nat.reduceSub]
 · cases back<;>simp only[Road.src,Road.dst,Bool.false_eq_true,↓reduceIte]at* <;>simp only[c1,false_and,↓reduceIte]<;>
   cases into<;>simp only[smE,smD,smK,af,vk,yi,List.cons_append,List.nil_append]at* <;>
   simp (disch:=omega) only[go_sem,K.dN,↓reduceIte,wt,c1,Bool.or_false,Nat.reduceAdd,Nat.reduceSub]
theorem Mr{m:aT}(h:m.ok)(t:Int)(ht:0≤t)(ht2:t≤1000000000000)(into:Option (List Int))(hi:∀s,into=some s→s.length≤64)(l:List Int)(hl:l.length=m.places.length)(hb:bnd l)(ch:Bool){k:Nat}(hk:k<m.roads.length):
 eO true [0,4,5,6,7,8,9,13,14] (yi into t (l,ch)++[Obj.box (af m)]).length (exS aO K.gw ⟨[.und,.ref 0 0 l.length,Jz,.bp (smK into) 0,.und,.und,.und,.und,.und,.und,.t (.sl (m.roads.map Road.e)),I m.roads.length,I k,.und,.und],yi into t (l,ch)++[.box (af m)]⟩)=
  some ⟨[.und,.ref 0 0 (sP m t into k (l,ch)).1.length,Jz,.bp (smK into) 0,.und,.und,.und,.und,.und,.und,.t (.sl (m.roads.map Road.e)),I m.roads.length,I (k+1),.und,.und],yi into t (sP m t into k (l,ch))++[.box (af m)]⟩:=by
 have nr:=h.nr
 have g:(m.roads.map Road.e)[k]?=some (nth m.roads k).e:=cZ _ hk
 have h1:=zK h t ht ht2 into hi l hl hb ch hk false
 have l1:(eE m t into k false l).1.length=l.length:=oA ..
 have l2:(eE m t into k true (eE m t into k false l).1).1.length=l.length:=by rw[oA,l1]
 have h2:=zK h t ht ht2 into hi (eE m t into k false l).1 (by omega) (qL h hl hb hk false) (ch||(eE m t into k false l).2) hk true
 have st:sP m t into k (l,ch)=((eE m t into k true (eE m t into k false l).1).1,ch||(eE m t into k false l).2||(eE m t into k true (eE m t into k false l).1).2):=rfl
 rw[st]
 simp only[l1,l2,Bool.false_eq_true,↓reduceIte]at h1 h2 ⊢
 have inner:∀z0 z6 z7 z8 z9:D,exS aO K.nq ⟨[z0,.ref 0 0 l.length,Jz,.bp (smK into) 0,I k,.bp (smK into+1) 0,z6,z7,z8,z9,.t (.sl (m.roads.map Road.e)),I m.roads.length,I k,.t (.agg [.bool false,.bool true]),I 0],yi into t (l,ch)++[.box (af m),.box (vk (nth m.roads k))]⟩=
  some (.exit 2,⟨[.und,.ref 0 0 l.length,Jz,.bp (smK into) 0,I k,.bp (smK into+1) 0,.und,.und,.und,.und,.t (.sl (m.roads.map Road.e)),I m.roads.length,I k,.t (.agg [.bool false,.bool true]),I 2],
   yi into t ((eE m t into k true (eE m t into k false l).1).1,ch||(eE m t into k false l).2||(eE m t into k true (eE m t into k false l).1).2)++[.box (af m),.box (vk (nth m.roads k))]⟩):=by
  intro z0 z6 z7 z8 z9
  refine cE (fun j=>⟨[.und,.ref 0 0 l.length,Jz,.bp (smK into) 0,I k,.bp (smK into+1) 0,.und,.und,.und,.und,.t (.sl (m.roads.map Road.e)),I m.roads.length,I k,.t (.agg [.bool false,.bool true]),I j],
   yi into t (match j with | 0=>(l,ch) | 1=>((eE m t into k false l).1,ch||(eE m t into k false l).2) | _=>((eE m t into k true (eE m t into k false l).1).1,ch||(eE m t into k false l).2||(eE m t into k true (eE m t into k false l).1).2))++[.box (af m),.box (vk (nth m.roads k))]⟩) 2 rfl ?_ ?_ (by simp)
  · intro j hj
    have hj2:j=0∨j=1:=by omega
    rcases hj2 with rfl | rfl
    · exact h1
    · exact h2
  · clear h1 h2
    cases into<;>simp only[smE,smD,smK,af,vk,yi,List.cons_append,List.nil_append]<;>
    simp (disch:=omega) only[go_sem,K.dN,↓reduceIte,Nat.reduceAdd,Nat.reduceSub]
 clear h1 h2 st
 generalize eE m t into k true (eE m t into k false l).1=b2 at*
 generalize eE m t into k false l=b1 at*
 generalize hx:nth m.roads k=x at*
 clear hx
 obtain⟨frm,to,len,area,walk,closed,rl,rh,ll,lh⟩:=x
 obtain⟨places,roads⟩:=m
 simp only at nr hk
 cases into<;>simp only[smE,smD,smK,af,vk,yi,List.cons_append,List.nil_append]at* <;>
 simp (disch:=omega) only[go_sem,K.gw,↓reduceIte,g,inner,l2,Nat.reduceAdd,Nat.reduceSub]
theorem D5{m:aT}(h:m.ok)(t:Int)(ht:0≤t)(ht2:t≤1000000000000)(into:Option (List Int))(hi:∀s,into=some s→s.length≤64)(l:List Int)(hl:l.length=m.places.length)(hb:bnd l)(ch:Bool):
 aO 0 N.cP [.t m.e,.ref 0 0 l.length,Jz] (yi into t (l,ch))=some (.tup [],yi into t ((cV m t into l).1,ch||(cV m t into l).2)):=by
 refine ay K.kM rfl ?_
 have nr:=h.nr
 have ls:=fun k=>di m t into l k
 have loop:∀z0 z4 z5 z6 z7 z8 z9 z13 z14:D,exS aO K.ns ⟨[z0,.ref 0 0 l.length,Jz,.bp (smK into) 0,z4,z5,z6,z7,z8,z9,.t (.sl (m.roads.map Road.e)),I m.roads.length,I 0,z13,z14],yi into t (l,ch)++[.box (af m)]⟩=
  some (.exit 0,⟨[.und,.ref 0 0 l.length,Jz,.bp (smK into) 0,.und,.und,.und,.und,.und,.und,.t (.sl (m.roads.map Road.e)),I m.roads.length,I m.roads.length,.und,.und],yi into t ((cV m t into l).1,ch||(cV m t into l).2)++[.box (af m)]⟩):=by
  intro z0 z4 z5 z6 z7 z8 z9 z13 z14
  refine cE (fun j=>⟨[.und,.ref 0 0 l.length,Jz,.bp (smK into) 0,.und,.und,.und,.und,.und,.und,.t (.sl (m.roads.map Road.e)),I m.roads.length,I j,.und,.und],yi into t ((ef m t into l j).1,ch||(ef m t into l j).2)++[.box (af m)]⟩) m.roads.length ?_ ?_ ?_ (by simp)
  · simp only[ef,Bool.or_false];rfl
  · intro j hj
    have r:=Mr h t ht ht2 into hi (ef m t into l j).1 (by rw[ls,hl]) (gS h hl hb j (by omega)) (ch||(ef m t into l j).2) hj
    have e:sP m t into j ((ef m t into l j).1,ch||(ef m t into l j).2)=((ef m t into l (j+1)).1,ch||(ef m t into l (j+1)).2):=by
     simp only[ef,sP,Bool.or_assoc]
    rw[e]at r
    simp only[ls]at r
    exact r
  · clear ls
    cases into<;>simp only[smE,smD,smK,af,vk,yi,List.cons_append,List.nil_append]<;>
    simp (disch:=omega) only[go_sem,K.gw,↓reduceIte,cV,Nat.reduceAdd,Nat.reduceSub]
 have l2:(cV m t into l).1.length=l.length:=by unfold cV;rw[ls]
 clear ls
 generalize cV m t into l=r at*
 obtain⟨r1,r2⟩:=r
 obtain⟨places,roads⟩:=m
 simp only at nr hl l2
 cases into<;>simp only[smE,smD,smK,af,vk,yi,List.cons_append,List.nil_append]at* <;>
 simp (disch:=omega) only[go_sem,K.cP,↓reduceIte,loop,l2,Nat.reduceAdd,Nat.reduceSub]
section
variable (a0 a1 a2 a3 a4 a5 x y : Obj) (ds : ai)
theorem Of:(a0::a1::a2::a3::a4::(ds++[x]))[ds.length+5]?=some x:=by simp
theorem W5:(a0::a1::a2::a3::a4::(ds++[x])).set (ds.length+5) y=a0::a1::a2::a3::a4::(ds++[y]):=by simp
theorem Og:(a0::a1::a2::a3::a4::a5::(ds++[x]))[ds.length+6]?=some x:=by simp
theorem W6:(a0::a1::a2::a3::a4::a5::(ds++[x])).set (ds.length+6) y=a0::a1::a2::a3::a4::a5::(ds++[y]):=by simp
theorem Oh(u:Obj):(ds++[u]++[x])[ds.length+1]?=some x:=by simp
theorem Rh(u:Obj):(a0::a1::a2::a3::a4::(ds++[u]++[x])).set (ds.length+1+1+1+1+1+1) y=a0::a1::a2::a3::a4::(ds++[u]++[y]):=by simp
theorem Ri(u:Obj):(a0::a1::a2::a3::a4::a5::(ds++[u]++[x])).set (ds.length+1+1+1+1+1+1+1) y=a0::a1::a2::a3::a4::a5::(ds++[u]++[y]):=by simp
theorem W7:(ds++[x]).length=ds.length+1:=by simp
end
@[go_sem] theorem ZD (n : Nat) : eqB n n = true := by
 induction n with
 | zero=>rfl
 | succ n ih=>exact ih
abbrev Oi(m:aT)(into:Option (List Int))(t:Int)(l:List Int)(ds:ai)(c:Bool):ai:=match into with
 | none=> .box (af m):: .box [I t]:: .box [.fn N.dM []]::Dk l:: .box [.ref 3 0 l.length]::(ds++[.box [B c]])
 | some s=> .box [.t (tL s)]:: .box (af m):: .box [I t]:: .box [.fn N.bU [.bp 0 0]]::Dk l:: .box [.ref 4 0 l.length]::(ds++[.box [B c]])
abbrev D6(m:aT)(into:Option (List Int))(t:Int)(l:List Int)(ds:ai)(c:Bool):St:=match into with
 | none=>⟨[.und,.und,.und,.und,.bp 0 0,.bp 1 0,.bp 2 0,.und,.bp 4 0,.bp (ds.length+5) 0,.und],Oi m none t l ds c⟩
 | some s=>⟨[.und,.und,.und,.und,.bp 1 0,.bp 2 0,.bp 3 0,.und,.bp 5 0,.bp (ds.length+6) 0,.und],Oi m (some s) t l ds c⟩
theorem JA{m:aT}(h:m.ok)(t:Int)(ht:0≤t)(ht2:t≤1000000000000)(into:Option (List Int))(hi:∀s,into=some s→s.length≤64)(l:List Int)(hl:l.length=m.places.length)(hb:bnd l)(ds:ai)(k:Nat):
 eO false [0,1,2,3,7,10] k (exS aO K.cI (D6 m into t l ds true))=some (D6 m into t (cV m t into l).1 (ds++[.box [B (cV m t into l).2]]) (cV m t into l).2):=by
 have nr:=h.nr
 have ar:=D5 h t ht ht2 into hi l hl hb false
 have l2:(cV m t into l).1.length=l.length:=by unfold cV;rw[di]
 cases into with
 | none=>
   generalize cV m t none l=r at*
   obtain⟨r1,r2⟩:=r
   obtain⟨places,roads⟩:=m
   simp only[Oi,D6,yi,smE,smD,af,Bool.false_or]at*
   simp (disch:=omega) only[go_sem,K.cI,↓reduceIte,ar,Of,W5,W7,l2,Oh,Rh,Nat.reduceAdd,Nat.reduceSub]
 | some s=>
   generalize cV m t (some s) l=r at*
   obtain⟨r1,r2⟩:=r
   obtain⟨places,roads⟩:=m
   simp only[Oi,D6,yi,smE,smD,af,Bool.false_or]at*
   simp (disch:=omega) only[go_sem,K.cI,↓reduceIte,ar,Og,W6,W7,l2,Oh,Ri,Nat.reduceAdd,Nat.reduceSub]
theorem Ms(m:aT)(into:Option (List Int))(t:Int)(l:List Int)(ds:ai):exS aO K.cI (D6 m into t l ds false)=some (.exit 0,D6 m into t l ds false):=by
 obtain⟨places,roads⟩:=m
 cases into with
 | none=>
   simp only[Oi,D6,af]
   simp (disch:=omega) only[go_sem,K.cI,↓reduceIte,Of,Nat.reduceAdd,Nat.reduceSub]
 | some s=>
   simp only[Oi,D6,af]
   simp (disch:=omega) only[go_sem,K.cI,↓reduceIte,Og,Nat.reduceAdd,Nat.reduceSub]
theorem AN{m:aT}(h:m.ok)(t:Int)(ht:0≤t)(ht2:t≤1000000000000)(into:Option (List Int))(hi:∀s,into=some s→s.length≤64):∀(n:Nat) (l:List Int) (ds:ai),xb l<n→l.length=m.places.length→bnd l→
 ∃ds',lX false [0,1,2,3,7,10] (exS aO K.cI) (D6 m into t l ds true)=some (.exit 0,D6 m into t (iT (cV m t into) n l) ds' false)
 | 0,l,ds,hn,_,_=>absurd hn (by omega)
 | n+1,l,ds,hn,hl,hb=>by
   have r:=JA h t ht ht2 into hi l hl hb ds (D6 m into t l ds true).H.length
   have s:=(oB h (t:=t) (into:=into) hl hb m.roads.length (Nat.le_refl _)).1
   change (cV m t into l).2=true→xb (cV m t into l).1<xb l at s
   unfold iT
   cases hc:(cV m t into l).2 with
   | true=>
     rw[hc]at r
     obtain⟨ds',h2⟩:=AN h t ht ht2 into hi n (cV m t into l).1 _ (by have:=s hc;omega) (by unfold cV;rw[di,hl]) (gS h hl hb _ (Nat.le_refl _))
     exact⟨ds',jK r h2⟩
   | false=>
     rw[hc]at r
     exact⟨_,jK r (de (Ms m into t _ _) (by simp))⟩
theorem zL{m:aT}(h:m.ok)(t:Int)(ht:0≤t)(ht2:t≤1000000000000)(l:List Int)(hl:l.length=m.places.length)(hb:bnd l):
 aO 0 N.bY [.t m.e,.t (tL l),I t,.fn N.dM []] []=some (.t (tL (cB m t none l)),[])∧
 ∀s:List Int,s.length≤64→aO 1 N.bY [.t m.e,.t (tL l),I t,.fn N.bU [.bp 0 0]] [.box [.t (tL s)]]=some (.ref 1 0 l.length,[.box [.t (tL s)],Dk (cB m t (some s) l)]):=by
 have np:=h.np
 have c1:=yh l (by omega)
 have ln:∀into,(cB m t into l).length=l.length:=by
  intro into
  have key:∀n l,(iT (cV m t into) n l).length=l.length:=by
   intro n
   induction n with
   | zero=>intro l;rfl
   | succ n ih=>
     intro l
     unfold iT
     split
     · rw[ih];unfold cV;rw[di]
     · unfold cV;rw[di]
  exact key _ _
 refine⟨ay K.jw rfl ?_,fun s hs=>ay K.jw rfl ?_⟩
 · obtain⟨ds,lp⟩:=AN h t ht ht2 none (by simp) (xb l+1) l [] (Nat.lt_succ_self _) hl hb
   have ln:=ln none
   have lp:∀z0 z1 z2 z3 z7 z10:D,exS aO K.kK ⟨[z0,z1,z2,z3,.bp 0 0,.bp 1 0,.bp 2 0,z7,.bp 4 0,.bp 5 0,z10],[.box (af m),.box [I t],.box [.fn N.dM []],Dk l,.box [.ref 3 0 l.length],.box [B true]]⟩=some (.exit 0,D6 m none t (cB m t none l) ds false):=fun z0 z1 z2 z3 z7 z10=>lp
   generalize cB m t none l=r at*
   obtain⟨places,roads⟩:=m
   simp only[Oi,D6,af]at*
   simp (disch:=omega) only[go_sem,K.bY,↓reduceIte,c1,lp,ln,Nat.reduceAdd,Nat.reduceSub]
 · obtain⟨ds,lp⟩:=AN h t ht ht2 (some s) (by intro s' h;cases h;exact hs) (xb l+1) l [] (Nat.lt_succ_self _) hl hb
   have l2:=ln (some s)
   clear ln
   have lp:∀z0 z1 z2 z3 z7 z10:D,exS aO K.kK ⟨[z0,z1,z2,z3,.bp 1 0,.bp 2 0,.bp 3 0,z7,.bp 5 0,.bp 6 0,z10],[.box [.t (tL s)],.box (af m),.box [I t],.box [.fn N.bU [.bp 0 0]],Dk l,.box [.ref 4 0 l.length],.box [B true]]⟩=some (.exit 0,D6 m (some s) t (cB m t (some s) l) ds false):=fun z0 z1 z2 z3 z7 z10=>lp
   generalize cB m t (some s) l=r at*
   obtain⟨places,roads⟩:=m
   simp only[Oi,D6,af]at*
   simp (disch:=omega) only[go_sem,K.bY,↓reduceIte,c1,lp,l2,Nat.reduceAdd,Nat.reduceSub]
end Go.Ev
namespace Go.Ev
open Go
variable [Lib] [cm] [bS]
theorem uq{gc:Bool}{dead:List Nat}{c:C}{vs:List D}{H:ai}(s:Nat→St)(n:Nat)(p:Nat→Bool)(P:Nat→Ex×St→Prop)(eN:Ex×St)
 (h0:(⟨iY dead vs,H⟩:St)=s 0) (hs:∀j,j<n→p j=false→eO gc dead (s j).H.length (exS aO c (s j))=some (s (j+1)))
 (he:∀j,j<n→p j=true→∃q,exS aO c (s j)=some q∧q.1≠ .normal∧P j q) (hN:exS aO c (s n)=some eN) (hn:eN.1≠ .normal):
 ((List.range n).find? p=none∧exS aO (.loop gc dead c) ⟨vs,H⟩=some eN)∨∃j q,(List.range n).find? p=some j∧exS aO (.loop gc dead c) ⟨vs,H⟩=some q∧P j q:=by
 classical
 let e:Nat→Ex×St:=fun j=>if h:j<n∧p j=true then Classical.choose (he j h.1 h.2)else eN
 have h2:∀j,j<n→p j=true→exS aO c (s j)=some (e j)∧(e j).1≠ .normal∧P j (e j):=by
  intro j hj hp
  have e1:e j=Classical.choose (he j hj hp):=dif_pos ⟨hj,hp⟩
  rw[e1]
  exact Classical.choose_spec (he j hj hp)
 have:=cu s n p e eN h0 hs (fun j hj hp=>⟨(h2 j hj hp).1,(h2 j hj hp).2.1⟩) hN hn
 cases hf:(List.range n).find? p with
 | none=>rw[hf]at this;exact .inl ⟨rfl,this⟩
 | some j=>
   rw[hf]at this
   obtain⟨h3,h4⟩:=x8 hf
   exact .inr ⟨j,e j,rfl,this,(h2 j h3 h4).2.2⟩
def qQ(a b:List Int):Bool:=match (List.range (min a.length b.length)).find? (fun j=>decide (nth a j≠nth b j))with
 | some j=>decide (nth a j<nth b j)
 | none=>decide (a.length<b.length)
theorem D7(a b:List Int)(ha:a.length≤1000000)(hb:b.length≤1000000):aO 0 N.fX [.t (tL a),.t (tL b)] []=some (B (qQ a b),[]):=by
 refine ay K.qG rfl ?_
 have loop:∀c:D,exS aO K.tZ ⟨[.t (tL a),.t (tL b),c,I 0],[]⟩=
  some (match (List.range (min a.length b.length)).find? (fun j=>decide (nth a j≠nth b j))with
   | some j=>(.ret,⟨[.t (tL a),.t (tL b),B (decide (nth a j<nth b j)),I j],[]⟩)
   | none=>(.exit 0,⟨[.t (tL a),.t (tL b),.und,I (min a.length b.length:Nat)],[]⟩)):=by
  intro c
  refine cu (fun j=>⟨[.t (tL a),.t (tL b),.und,I j],[]⟩) (min a.length b.length) (fun j=>decide (nth a j≠nth b j)) _ _ rfl ?_ ?_ ?_ (by simp)
  · intro j hj hp
    have hp:nth a j=nth b j:=by simpa using hp
    simp (disch:=omega) only[go_sem,K.gR,↓reduceIte]
  · intro j hj hp
    have hp:nth a j≠nth b j:=by simpa using hp
    refine⟨?_,by simp⟩
    by_cases h1:nth a j<nth b j
    · simp (disch:=omega) only[go_sem,K.gR,↓reduceIte,h1,decide_true]
    · simp (disch:=omega) only[go_sem,K.gR,↓reduceIte,h1,decide_false]
  · by_cases h1:a.length≤b.length
    · have e:min a.length b.length=a.length:=by omega
      rw[e]
      simp (disch:=omega) only[go_sem,K.gR,↓reduceIte]
    · have e:min a.length b.length=b.length:=by omega
      rw[e]
      simp (disch:=omega) only[go_sem,K.gR,↓reduceIte]
 unfold qQ
 simp (disch:=omega) only[go_sem,K.fX,↓reduceIte,loop]
 cases hf:(List.range (min a.length b.length)).find? (fun j=>decide (nth a j≠nth b j))with
 | some j=>simp (disch:=omega) only[go_sem,↓reduceIte]
 | none=>
   by_cases h1:a.length<b.length
   · simp (disch:=omega) only[go_sem,↓reduceIte,h1,decide_true]
   · simp (disch:=omega) only[go_sem,↓reduceIte,h1,decide_false]
def bO(l:List Int)(x:Int):Int:=match (List.range l.length).find? (fun j=>decide (nth l j=x))with
 | some j=>j
 | none=> -1
theorem mM(l:List Int)(x:Int)(hl:l.length≤1000000):aO 0 N.cF [.t (tL l),I x] []=some (I (bO l x),[]):=by
 refine ay K.nO rfl ?_
 have loop:∀c:D,exS aO K.qB ⟨[.t (tL l),I x,c,I 0],[]⟩=
  some (match (List.range l.length).find? (fun j=>decide (nth l j=x))with
   | some j=>(.ret,⟨[.t (tL l),I x,I j,I j],[]⟩)
   | none=>(.exit 0,⟨[.t (tL l),I x,.und,I l.length],[]⟩)):=by
  intro c
  refine cu (fun j=>⟨[.t (tL l),I x,.und,I j],[]⟩) l.length (fun j=>decide (nth l j=x)) _ _ rfl ?_ ?_ ?_ (by simp)
  · intro j hj hp
    have hp:¬nth l j=x:=by simpa using hp
    simp (disch:=omega) only[go_sem,K.ju,↓reduceIte]
  · intro j hj hp
    have hp:nth l j=x:=by simpa using hp
    refine⟨?_,by simp⟩
    simp (disch:=omega) only[go_sem,K.ju,↓reduceIte,hp]
  · simp (disch:=omega) only[go_sem,K.ju,↓reduceIte]
 unfold bO
 simp (disch:=omega) only[go_sem,K.cF,↓reduceIte,loop]
 cases hf:(List.range l.length).find? (fun j=>decide (nth l j=x))with
 | some j=>simp (disch:=omega) only[go_sem,↓reduceIte]
 | none=>simp (disch:=omega) only[go_sem,↓reduceIte]
theorem vl{l:List Int}{x:Int}(h:0≤bO l x):bO l x<l.length∧nth l (bO l x).toNat=x:=by
 unfold bO at h ⊢
 cases hf:(List.range l.length).find? (fun j=>decide (nth l j=x))with
 | some j=>
   obtain⟨h1,h2⟩:=x8 hf
   simp only[Int.toNat_natCast]
   exact⟨by omega,of_decide_eq_true h2⟩
 | none=>rw[hf]at h;simp at h
def mN(l:List Int)(j:Nat):Bool:=decide (1≤nth l j∧nth l j≤65535∧bO (l.take j) (nth l j)<0)
def ew(l:List Int):Bool:=(List.range l.length).all (mN l)
theorem Cq(l:List Int)(hl:l.length≤1000000):aO 0 N.dT [.t (tL l)] []=some (B (ew l),[]):=by
 refine ay K.nJ rfl ?_
 have loop:∀c:D,exS aO K.qz ⟨[.t (tL l),c,I 0],[]⟩=
  some (match (List.range l.length).find? (fun j=> !mN l j)with
   | some j=>(.ret,⟨[.t (tL l),B false,I j],[]⟩)
   | none=>(.exit 0,⟨[.t (tL l),.und,I l.length],[]⟩)):=by
  intro c
  refine cu (fun j=>⟨[.t (tL l),.und,I j],[]⟩) l.length (fun j=> !mN l j) _ _ rfl ?_ ?_ ?_ (by simp)
  · intro j hj hp
    have hp:mN l j=true:=by simpa using hp
    have b:=mM (l.take j) (nth l j) (by rw[List.length_take];omega)
    simp only[mN,decide_eq_true_eq]at hp
    simp only[tL,List.map_take]at b
    simp (disch:=omega) only[go_sem,K.fD,↓reduceIte,b]
  · intro j hj hp
    have hp:mN l j=false:=by simpa using hp
    have b:=mM (l.take j) (nth l j) (by rw[List.length_take];omega)
    simp only[mN,decide_eq_false_iff_not]at hp
    simp only[tL,List.map_take]at b
    refine⟨?_,by simp⟩
    by_cases h1:nth l j<1
    · simp (disch:=omega) only[go_sem,K.fD,↓reduceIte,b]
    · by_cases h2:65535<nth l j
      · simp (disch:=omega) only[go_sem,K.fD,↓reduceIte,b]
      · simp (disch:=omega) only[go_sem,K.fD,↓reduceIte,b]
  · simp (disch:=omega) only[go_sem,K.fD,↓reduceIte]
 unfold ew
 rw[pH]
 simp (disch:=omega) only[go_sem,K.dT,↓reduceIte,loop]
 cases hf:(List.range l.length).find? (fun j=> !mN l j)with
 | some j=>simp (disch:=omega) only[go_sem,↓reduceIte,Option.isNone]
 | none=>simp (disch:=omega) only[go_sem,↓reduceIte,Option.isNone]
structure World where
 tags:List Int
 whr:List Wh
instance : Dat World := ⟨⟨[], []⟩⟩
abbrev World.e(x:World):T:= .agg [tL x.tags,.sl (x.whr.map Wh.e)]
structure Bel where
 worlds:List World
instance : Dat Bel := ⟨⟨[]⟩⟩
abbrev Bel.e(b:Bel):T:= .agg [.sl (b.worlds.map World.e)]
def World.sz(x:World):Prop:=x.tags.length≤1000000∧x.whr.length≤1000000∧∀w∈x.whr,w.frm.length≤1000000
def Bel.sz(b:Bel):Prop:=b.worlds.length≤1000000∧∀x∈b.worlds,x.sz
@[go_sem] theorem Rj (l : List Wh) : b6 2 (l.map Wh.e) = true := ni 2 _ (fun _ => rfl) l
@[go_sem] theorem KZ (l : List World) : b6 2 (l.map World.e) = true := ni 2 _ (fun _ => rfl) l
@[go_sem] theorem ZE (l : List Wh) : nG 2 (l.map Wh.e) = true := by cases l <;> rfl
@[go_sem] theorem Rk (l : List World) : nG 2 (l.map World.e) = true := by cases l <;> rfl
theorem r9(x:World)(h:x.sz)(a:D):exS aO K.ng ⟨[a,.bp 0 0,.bp 1 0,.bp 3 0,I 0],[.box [.t (tL x.tags),.t (.sl (x.whr.map Wh.e))],.box [.nil,.nil],.arr 1 false 0 ((x.tags.map (T.int .i64)).map .t),.box [.ref 2 0 x.tags.length,.ref 5 0 0],.arr 2 false 0 [],.arr 2 false 0 []]⟩=
 some (.exit 0,⟨[.und,.bp 0 0,.bp 1 0,.bp 3 0,I x.whr.length],[.box [.t (tL x.tags),.t (.sl (x.whr.map Wh.e))],.box [.nil,.nil],.arr 1 false 0 ((x.tags.map (T.int .i64)).map .t),.box [.ref 2 0 x.tags.length,.ref 5 0 x.whr.length],.arr 2 false 0 [],.arr 2 false 0 ((x.whr.map Wh.e).map .t)]⟩):=by
 obtain⟨tags,whr⟩:=x
 obtain⟨h1,h2,h3⟩:=h
 simp only at h1 h2 h3 ⊢
 have tk:whr.take whr.length=whr:=by simp
 refine cE (fun j=>⟨[.und,.bp 0 0,.bp 1 0,.bp 3 0,I j],[.box [.t (tL tags),.t (.sl (whr.map Wh.e))],.box [.nil,.nil],.arr 1 false 0 ((tags.map (T.int .i64)).map .t),.box [.ref 2 0 tags.length,.ref 5 0 (whr.take j).length],.arr 2 false 0 [],.arr 2 false 0 (((whr.take j).map Wh.e).map .t)]⟩) whr.length rfl ?_ ?_ (by simp)
 · intro j hj
   have c:=AH (nth whr j) (by have:=h3 _ (ae hj);omega)
   have lt:(whr.take j).length=j:=by rw[List.length_take];omega
   generalize hx:nth whr j=w at*
   obtain⟨time,frm⟩:=w
   have tk:whr.take (j+1)=whr.take j++[⟨time,frm⟩]:=by rw[ij hj,hx]
   generalize whr.take j=pre at*
   simp (disch:=omega) only[go_sem,K.jx,↓reduceIte,hx,c,lt,tk,Nat.reduceAdd,Nat.reduceSub]
 · simp (disch:=omega) only[go_sem,K.jx,↓reduceIte,tk]
theorem Cr(x:World)(h:x.sz):aO 0 N.bw [.t x.e] []=some (.t x.e,[]):=by
 refine ay K.iJ rfl ?_
 have loop:=r9 x h
 obtain⟨tags,whr⟩:=x
 obtain⟨h1,h2,h3⟩:=h
 simp only at h1 h2 h3 loop ⊢
 simp (disch:=omega) only[go_sem,K.bw,↓reduceIte,loop]
theorem mc(x:World)(h:x.sz):aO 1 N.bw [.t x.e] []=some (.agg [.ref 0 0 x.tags.length,.ref 1 0 x.whr.length],[.arr 1 false 0 ((x.tags.map (T.int .i64)).map .t),.arr 2 false 0 ((x.whr.map Wh.e).map .t)]):=by
 refine ay K.iJ rfl ?_
 have loop:=r9 x h
 obtain⟨tags,whr⟩:=x
 obtain⟨h1,h2,h3⟩:=h
 simp only at h1 h2 h3 loop ⊢
 simp (disch:=omega) only[go_sem,K.bw,↓reduceIte,loop]
theorem vZ(l:List World)(h1:l.length≤1000000)(h2:∀x∈l,x.sz)(a:D):exS aO K.tV ⟨[a,.bp 0 0,.bp 1 0,.bp 2 0,I 0],[.box [.t (.sl (l.map World.e))],.box [.nil],.box [.ref 3 0 0],.arr 2 false 0 []]⟩=
 some (.exit 0,⟨[.und,.bp 0 0,.bp 1 0,.bp 2 0,I l.length],[.box [.t (.sl (l.map World.e))],.box [.nil],.box [.ref 3 0 l.length],.arr 2 false 0 ((l.map World.e).map .t)]⟩):=by
 have tk:l.take l.length=l:=by simp
 refine cE (fun j=>⟨[.und,.bp 0 0,.bp 1 0,.bp 2 0,I j],[.box [.t (.sl (l.map World.e))],.box [.nil],.box [.ref 3 0 (l.take j).length],.arr 2 false 0 (((l.take j).map World.e).map .t)]⟩) l.length rfl ?_ ?_ (by simp)
 · intro j hj
   have c:=Cr (nth l j) (h2 _ (ae hj))
   have lt:(l.take j).length=j:=by rw[List.length_take];omega
   generalize hx:nth l j=w at*
   obtain⟨tags,whr⟩:=w
   have tk:l.take (j+1)=l.take j++[⟨tags,whr⟩]:=by rw[ij hj,hx]
   generalize l.take j=pre at*
   simp (disch:=omega) only[go_sem,K.nK,↓reduceIte,hx,c,lt,tk,Nat.reduceAdd,Nat.reduceSub]
 · simp (disch:=omega) only[go_sem,K.nK,↓reduceIte,tk]
theorem vm(b:Bel)(h:b.sz):aO 0 N.dF [.t b.e] []=some (.t b.e,[]):=by
 refine ay K.nh rfl ?_
 obtain⟨h1,h2⟩:=h
 have loop:=vZ b.worlds h1 h2
 obtain⟨l⟩:=b
 simp only at h1 h2 loop ⊢
 simp (disch:=omega) only[go_sem,K.dF,↓reduceIte,loop]
theorem D8(b:Bel)(h:b.sz):aO 1 N.dF [.t b.e] []=some (.agg [.ref 0 0 b.worlds.length],[.arr 2 false 0 ((b.worlds.map World.e).map .t)]):=by
 refine ay K.nh rfl ?_
 obtain⟨h1,h2⟩:=h
 have loop:=vZ b.worlds h1 h2
 obtain⟨l⟩:=b
 simp only at h1 h2 loop ⊢
 simp (disch:=omega) only[go_sem,K.dF,↓reduceIte,loop]
def HY(m:aT)(first:List Int)(x:World)(k:Nat):Bool:=decide (0≤bO first (nth x.tags k))&&cH m (nth x.whr k)
def oD(m:aT)(ws:List World)(first:List Int)(i:Nat):Bool:=
 decide ((nth ws i).tags.length=first.length∧(nth ws i).whr.length=first.length)&&ew (nth ws i).tags&&(decide (i=0)||qQ (nth ws (i-1)).tags (nth ws i).tags)&&(List.range (nth ws i).tags.length).all (HY m first (nth ws i))
def qi(m:aT)(b:Bel):Bool:=
 decide (1≤b.worlds.length∧b.worlds.length≤24)&&decide (1≤(nth b.worlds 0).tags.length∧(nth b.worlds 0).tags.length≤12)&&(List.range b.worlds.length).all (oD m b.worlds (nth b.worlds 0).tags)
theorem yj{m:aT}(h:m.ok)(ws:List World)(first:List Int)(hf:first.length≤1000000)(hs:∀x∈ws,x.sz)(i:Nat)(hi:i<ws.length)(hl:ws.length≤1000000):
 (oD m ws first i=true→eO true [0,1,4,7,8] 2 (exS aO K.bN ⟨[.und,.und,.bp 0 0,.bp 1 0,.und,.t (tL first),I i,.und,.und],[.box (af m),.box [.t (.sl (ws.map World.e))]]⟩)=some ⟨[.und,.und,.bp 0 0,.bp 1 0,.und,.t (tL first),I (i+1),.und,.und],[.box (af m),.box [.t (.sl (ws.map World.e))]]⟩)∧
 (oD m ws first i=false→∃q,exS aO K.bN ⟨[.und,.und,.bp 0 0,.bp 1 0,.und,.t (tL first),I i,.und,.und],[.box (af m),.box [.t (.sl (ws.map World.e))]]⟩=some q∧q.1= .ret∧q.2.vs[4]?=some (B false)):=by
 have np:=h.np
 have sz:=hs _ (ae hi)
 have sz0:0<i→(nth ws (i-1)).sz:=fun h0=>hs _ (ae (by omega))
 unfold oD
 generalize hy:nth ws (i-1)=y at*
 generalize hx:nth ws i=x at*
 obtain⟨tags,whr⟩:=x
 obtain⟨ptags,pwhr⟩:=y
 obtain⟨s1,s2,s3⟩:=sz
 simp only at s1 s2 s3 sz0 ⊢
 have p:=Cq tags s1
 have inner:tags.length=first.length→whr.length=first.length→∀a b c:D,
  ((List.range tags.length).all (HY m first ⟨tags,whr⟩)=true∧exS aO K.nL ⟨[a,b,.bp 0 0,.bp 1 0,c,.t (tL first),I i,.bp 2 0,I 0],[.box (af m),.box [.t (.sl (ws.map World.e))],.box [.t (tL tags),.t (.sl (whr.map Wh.e))]]⟩=
    some (.exit 2,⟨[.und,.und,.bp 0 0,.bp 1 0,.und,.t (tL first),I i,.bp 2 0,I tags.length],[.box (af m),.box [.t (.sl (ws.map World.e))],.box [.t (tL tags),.t (.sl (whr.map Wh.e))]]⟩))∨
  ((List.range tags.length).all (HY m first ⟨tags,whr⟩)=false∧∃j,exS aO K.nL ⟨[a,b,.bp 0 0,.bp 1 0,c,.t (tL first),I i,.bp 2 0,I 0],[.box (af m),.box [.t (.sl (ws.map World.e))],.box [.t (tL tags),.t (.sl (whr.map Wh.e))]]⟩=
    some (.ret,⟨[.und,.und,.bp 0 0,.bp 1 0,B false,.t (tL first),I i,.bp 2 0,j],[.box (af m),.box [.t (.sl (ws.map World.e))],.box [.t (tL tags),.t (.sl (whr.map Wh.e))]]⟩)):=by
  intro l1 l2 a b c
  have:=cu (gc:=true) (dead:=[0,1,4]) (c:=K.ga) (vs:=[a,b,.bp 0 0,.bp 1 0,c,.t (tL first),I i,.bp 2 0,I 0]) (H:=[.box (af m),.box [.t (.sl (ws.map World.e))],.box [.t (tL tags),.t (.sl (whr.map Wh.e))]])
   (fun j=>⟨[.und,.und,.bp 0 0,.bp 1 0,.und,.t (tL first),I i,.bp 2 0,I j],[.box (af m),.box [.t (.sl (ws.map World.e))],.box [.t (tL tags),.t (.sl (whr.map Wh.e))]]⟩) tags.length (fun j=> !HY m first ⟨tags,whr⟩ j)
   (fun j=>(.ret,⟨[.und,.und,.bp 0 0,.bp 1 0,B false,.t (tL first),I i,.bp 2 0,I j],[.box (af m),.box [.t (.sl (ws.map World.e))],.box [.t (tL tags),.t (.sl (whr.map Wh.e))]]⟩))
   (.exit 2,⟨[.und,.und,.bp 0 0,.bp 1 0,.und,.t (tL first),I i,.bp 2 0,I tags.length],[.box (af m),.box [.t (.sl (ws.map World.e))],.box [.t (tL tags),.t (.sl (whr.map Wh.e))]]⟩) rfl
   (by
    intro j hj hp
    have hp:HY m first ⟨tags,whr⟩ j=true:=by simpa using hp
    have b:=mM first (nth tags j) hf
    have v:=AG h (nth whr j) (by have:=s3 _ (ae (l:=whr) (j:=j) (by omega));omega)
    simp only[HY,Bool.and_eq_true,decide_eq_true_eq]at hp
    rw[hp.2]at v
    have hp:=hp.1
    simp (disch:=omega) only[go_sem,K.ga,↓reduceIte,b,v])
   (by
    intro j hj hp
    have hp:HY m first ⟨tags,whr⟩ j=false:=by simpa using hp
    have b:=mM first (nth tags j) hf
    have v:=AG h (nth whr j) (by have:=s3 _ (ae (l:=whr) (j:=j) (by omega));omega)
    refine⟨?_,by simp⟩
    by_cases c1:bO first (nth tags j)<0
    · simp (disch:=omega) only[go_sem,K.ga,↓reduceIte,b,v]
    · have:cH m (nth whr j)=false:=by
       simp only[HY,Bool.and_eq_false_iff,decide_eq_false_iff_not]at hp
       rcases hp with hp | hp
       · exact absurd (by omega) hp
       · exact hp
      rw[this]at v
      simp (disch:=omega) only[go_sem,K.ga,↓reduceIte,b,v])
   (by simp (disch:=omega) only[go_sem,K.ga,↓reduceIte]) (by simp)
  cases hf:(List.range tags.length).find? (fun j=> !HY m first ⟨tags,whr⟩ j)with
  | none=>rw[hf]at this;exact .inl ⟨by rw[pH,hf];rfl,this⟩
  | some j=>rw[hf]at this;exact .inr ⟨by rw[pH,hf];rfl,⟨_,this⟩⟩
 by_cases l1:tags.length=first.length
 · by_cases l2:whr.length=first.length
   · cases hp:ew tags with
     | false=>
       rw[hp]at p
       refine⟨fun h=>by simp[hp]at h,fun _=>?_⟩
       simp (disch:=omega) only[go_sem,K.bN,↓reduceIte,hx,p]
       refine⟨_,rfl,?_,?_⟩<;>rfl
     | true=>
       rw[hp]at p
       have inner:=inner l1 l2
       cases i with
       | zero=>
         simp only[DT]at inner
         simp only[l1,l2,and_self,decide_true,Bool.true_and,Bool.true_or]at inner ⊢
         rcases inner .und .und .und with⟨e, -⟩ | ⟨e, -⟩
         · refine⟨fun _=>?_,fun h=>by rw[e]at h;exact absurd h (by simp)⟩
           have inner:=fun a b c=>((inner a b c).resolve_right fun h=>by rw[e]at h;exact absurd h.1 (by simp)).2
           simp (disch:=omega) only[go_sem,K.bN,↓reduceIte,hx,p,inner]
         · refine⟨fun h=>by rw[e]at h;exact absurd h (by simp),fun _=>?_⟩
           have inner:∀a b c,_:=fun a b c=>((inner a b c).resolve_left fun h=>by rw[e]at h;exact absurd h.1 (by simp)).2
           obtain⟨j,inner⟩:=inner .und .und .und
           simp (disch:=omega) only[go_sem,K.bN,↓reduceIte,hx,p,inner]
           refine⟨_,rfl,?_,?_⟩<;>rfl
       | succ i=>
         simp only[GO,GP]at inner
         rw[Nat.add_sub_cancel]at hy
         have ls:=D7 ptags tags (sz0 (by omega)).1 s1
         cases hl:qQ ptags tags with
         | false=>
           rw[hl]at ls
           refine⟨fun h=>by simp at h,fun _=>?_⟩
           simp (disch:=omega) only[go_sem,K.bN,↓reduceIte,hx,p,hy,ls]
           refine⟨_,rfl,?_,?_⟩<;>rfl
         | true=>
           rw[hl]at ls
           simp only[l1,l2,and_self,decide_true,Bool.true_and,Bool.or_true]at inner ⊢
           rcases inner .und .und .und with⟨e, -⟩ | ⟨e, -⟩
           · refine⟨fun _=>?_,fun h=>by rw[e]at h;exact absurd h (by simp)⟩
             have inner:=fun a b c=>((inner a b c).resolve_right fun h=>by rw[e]at h;exact absurd h.1 (by simp)).2
             simp (disch:=omega) only[go_sem,K.bN,↓reduceIte,hx,hy,ls,p,inner]
           · refine⟨fun h=>by rw[e]at h;exact absurd h (by simp),fun _=>?_⟩
             have inner:∀a b c,_:=fun a b c=>((inner a b c).resolve_left fun h=>by rw[e]at h;exact absurd h.1 (by simp)).2
             obtain⟨j,inner⟩:=inner .und .und .und
             simp (disch:=omega) only[go_sem,K.bN,↓reduceIte,hx,hy,ls,p,inner]
             refine⟨_,rfl,?_,?_⟩<;>rfl
   · refine⟨fun h=>by simp[l2]at h,fun _=>?_⟩
     simp (disch:=omega) only[go_sem,K.bN,↓reduceIte,hx,p]
     refine⟨_,rfl,?_,?_⟩<;>rfl
 · refine⟨fun h=>by simp[l1]at h,fun _=>?_⟩
   simp (disch:=omega) only[go_sem,K.bN,↓reduceIte,hx,p]
   refine⟨_,rfl,?_,?_⟩<;>rfl
theorem JB{m:aT}(h:m.ok)(b:Bel)(hs:b.sz):aO 0 N.cD [.t m.e,.t b.e] []=some (B (qi m b),[]):=by
 refine ay K.pe rfl ?_
 obtain⟨h1,h2⟩:=hs
 have ck:=ue h
 obtain⟨ws⟩:=b
 unfold qi
 simp only at h1 h2 ⊢
 by_cases c1:ws.length<1
 · simp (disch:=omega) only[go_sem,K.cD,↓reduceIte,show ¬(1≤ws.length∧ws.length≤24)by omega,decide_false,Bool.false_and]
 · by_cases c2:24<ws.length
   · simp (disch:=omega) only[go_sem,K.cD,↓reduceIte,show ¬(1≤ws.length∧ws.length≤24)by omega,decide_false,Bool.false_and]
   · have c3:1≤ws.length∧ws.length≤24:=by omega
     have sz:=h2 _ (ae (l:=ws) (j:=0) (by omega))
     have i0:(ws.map World.e)[0]?=some (nth ws 0).e:=cZ _ (by omega)
     generalize hx:nth ws 0=x at*
     obtain⟨first,whr⟩:=x
     have hf:=sz.1
     simp only at hf ⊢
     by_cases c4:first.length<1
     · simp (disch:=omega) only[go_sem,K.cD,↓reduceIte,ck,hx,c3,and_self,show ¬(1≤first.length∧first.length≤12)by omega,decide_true,decide_false,Bool.true_and,Bool.false_and]
     · by_cases c5:12<first.length
       · simp (disch:=omega) only[go_sem,K.cD,↓reduceIte,ck,hx,c3,and_self,show ¬(1≤first.length∧first.length≤12)by omega,decide_true,decide_false,Bool.true_and,Bool.false_and]
       · have loop:=fun a b c d e=>uq (gc:=true) (dead:=[0,1,4,7,8]) (c:=K.bN) (vs:=[a,b,.bp 0 0,.bp 1 0,c,.t (tL first),I 0,d,e]) (H:=[.box (af m),.box [.t (.sl (ws.map World.e))]])
          (fun j=>⟨[.und,.und,.bp 0 0,.bp 1 0,.und,.t (tL first),I j,.und,.und],[.box (af m),.box [.t (.sl (ws.map World.e))]]⟩) ws.length (fun j=> !oD m ws first j) (fun _ q=>q.1= .ret∧q.2.vs[4]?=some (B false))
          (.exit 0,⟨[.und,.und,.bp 0 0,.bp 1 0,.und,.t (tL first),I ws.length,.und,.und],[.box (af m),.box [.t (.sl (ws.map World.e))]]⟩) rfl
          (fun j hj hp=>(yj h ws first hf h2 j hj h1).1 (by simpa using hp))
          (fun j hj hp=>by
           obtain⟨q,q1,q2,q3⟩:=(yj h ws first hf h2 j hj h1).2 (by simpa using hp)
           exact⟨q,q1,by rw[q2];simp,q2,q3⟩)
          (by simp (disch:=omega) only[go_sem,K.bN,↓reduceIte]) (by simp)
         rw[pH]
         rcases loop (.t m.e) (.t (Bel.e ⟨ws⟩)) (B false) .und .und with⟨e1,e2⟩ | ⟨j,⟨x,vs,H⟩,e1,e2,e3,e4⟩
         · have e2:exS aO K.nM ⟨[.t m.e,.t (Bel.e ⟨ws⟩),.bp 0 0,.bp 1 0,B false,.t (tL first),I 0,.und,.und],[.box (af m),.box [.t (.sl (ws.map World.e))]]⟩=_:=e2
           simp (disch:=omega) only[go_sem,K.cD,↓reduceIte,ck,hx,c3,and_self,show(1≤first.length∧first.length≤12)by omega,decide_true,decide_false,Bool.true_and,e1,e2,Option.isNone]
         · have e2:exS aO K.nM ⟨[.t m.e,.t (Bel.e ⟨ws⟩),.bp 0 0,.bp 1 0,B false,.t (tL first),I 0,.und,.und],[.box (af m),.box [.t (.sl (ws.map World.e))]]⟩=_:=e2
           simp only at e3 e4
           subst e3
           simp (disch:=omega) only[go_sem,K.cD,↓reduceIte,ck,hx,c3,and_self,show(1≤first.length∧first.length≤12)by omega,decide_true,decide_false,Bool.true_and,e1,e2,Option.isNone]
           simp (disch:=omega) only[go_sem,iw,e4,List.take_zero]
end Go.Ev
namespace Go.Ev.K
open Go.Ev
def pO:C:=(.seq (.ite [m v5,f 0 v1,g l0,m v4,a 2 l1 l0,f 1 l0,g l0,u (.ln l0),u (.bin .lss l7 l0)] [] 0 .skip (.exit 2)) (.seq (.blk 3 (.reg [m v3,f 0 v1,g l0,m v4,a 2 l1 l0,f 1 l0,g l0,m v5,a 2 l1 l0,f 0 l0,g l0,u (.mx [.l 10,.l 0]),w 3 (.mv l0)] [])) (.reg [m v5,u (.bin .add l0 (.i 1)),w 5 (.mv l0)] [])))
def wc:C:= .loop true [0,2] K.pO
def pP:C:=(.seq (.ite [m v4,f 0 v1,g l0,u (.ln l0),u (.bin .lss l3 l0)] [] 0 .skip (.exit 0)) (.seq (.blk 1 (.seq (.reg [w 5 (.mv (.i 0))] []) (.blk 2 K.wc))) (.reg [m v4,u (.bin .add l0 (.i 1)),w 4 (.mv l0)] [])))
def we:C:= .loop true [0,2,5] K.pP
def jb:Fn:={ nargs:=1,vars:=[0,1,2,3,4,5],body:=(.seq (.reg [w 1 (.bx v0 1),w 2 (.mv (.i 0))] []) (.seq (.reg [w 3 (.mv (.i 0))] []) (.seq (.seq (.reg [w 4 (.mv (.i 0))] []) (.blk 0 K.we)) (.seq (.reg [m v3,w 2 (.mv l0)] []) .ret)))),res:=[(2,none)]}
end Go.Ev.K
namespace Go.Ev
class iv [Lib]:Prop where
 sV:Lib.fs N.jb=some K.jb
namespace K
variable [Lib] [iv]
theorem sV:Lib.fs N.jb=some K.jb:=iv.sV
end K
end Go.Ev
namespace Go.Ev.K
open Go.Ev
def eB:C:=(.its [u (.bin .lss v8 v7)] [] 0 .skip (.exit 0) (.seq (.blk 1 (.seq (.reg [m v8,a 1 v6 v8,g l0,w 4 (.mv l2),w 5 (.mv l1)] []) (.ite [m v5,m v1,u (.bin .lss l1 l0),m l0,y 0 false (.mv v5),y 1 false (.mv v2),y 2 false (.bin .gtr l1 l0),u (.pk l3 (.b true) l0),m l0,y 0 false (.mv v4),y 1 false (.bin .gtr l0 (.i 0)),y 2 false (.mv l0),y 0 true (.mv v5),y 1 true (.mv v0),y 2 true (.mv v4),y 3 true (.bin .sub l0 (.i 1)),y 4 true (.ia l2 l0 1),y 5 true (.ld l0 1 false),y 6 true (.bin .leq l5 l0),y 10 false (.pk l7 l0 (.b false)),u (.pk l11 (.b true) l0)] [] 0 (.seq (.reg [w 3 (.mv (.b false))] []) .ret) .skip))) (.reg [u (.bin .add v8 (.i 1)),w 8 (.mv l0)] [])))
def qR:C:= .loop true [3,4,5] K.eB
def dW:Fn:={ nargs:=3,vars:=[0,1,2,6,7,8,9,10,11],body:=(.seq (.reg [w 3 (.mv (.b false))] []) (.seq (.seq (.reg [w 6 (.mv v0),w 7 (.ln l0),w 8 (.mv (.i 0))] []) (.blk 0 K.qR)) (.seq (.reg [w 3 (.mv (.b true))] []) .ret))),res:=[(3,none)]}
def yX:C:=(.its [u (.bin .lss v11 v10)] [] 0 .skip (.exit 2) (.seq (.blk 3 (.seq (.reg [a 2 v9 v11,h 2 l0,w 5 (.al [.t (.int .i64 (0)),.nil] []),u (.st l0 l1 2 [])] []) (.ite [m v1,u (.mf N.gq [.v 5]),u (.ca N.aF 0 [] [.l 1,.l 0])] [] 0 (.seq (.reg [w 3 (.mv (.b false))] []) .ret) .skip))) (.reg [u (.bin .add v11 (.i 1)),w 11 (.mv l0)] [])))
def AO:C:= .loop true [0,2,3,4,5] K.yX
def yY:C:=(.its [u (.bin .lss v8 v7)] [] 0 .skip (.exit 0) (.seq (.blk 1 (.seq (.reg [a 2 v6 v8,h 2 l0,w 4 (.al [.nil,.nil] []),u (.st l0 l1 2 [])] []) (.seq (.reg [f 1 v4,w 9 (.ld l0 1 false),w 10 (.ln l0),w 11 (.mv (.i 0))] []) (.blk 2 K.AO)))) (.reg [u (.bin .add v8 (.i 1)),w 8 (.mv l0)] [])))
def AP:C:= .loop true [0,2,3,4,5,9,10,11] K.yY
def iL:Fn:={ nargs:=2,vars:=[0,1,2,4,6,8,10,11,12,17,18,19],body:=(.seq (.reg [w 2 (.bx v0 1),w 3 (.mv (.b false))] []) (.seq (.seq (.reg [f 0 v2,w 6 (.ld l0 1 false),w 7 (.ln l0),w 8 (.mv (.i 0))] []) (.blk 0 K.AP)) (.seq (.reg [w 3 (.mv (.b true))] []) .ret))),res:=[(3,none)]}
def gq:Fn:={ nargs:=2,vars:=[0,1,3],body:=(.seq (.reg [w 2 (.mv (.b false))] []) (.seq (.reg [m v0,f 1 v1,g l0,u (.ln l0),u (.bin .sub l0 (.i 1)),u (.ca N.eI 0 [] [.l 4,.i 0,.l 0]),m l0,y 0 true (.fa v1 1),y 1 true (.ld l0 1 false),y 2 true (.mv v0),y 3 true (.ia l1 l0 1),y 4 true (.ld l0 1 false),y 5 true (.bin .neq l0 (.i 1099511627776)),u (.pk l6 l0 (.b false)),w 2 (.mv l0)] []) .ret)),res:=[(2,none)]}
end Go.Ev.K
namespace Go.Ev
class ir [Lib]:Prop where
 nZ:Lib.fs N.dW=some K.dW
 wg:Lib.fs N.iL=some K.iL
 sg:Lib.fs N.gq=some K.gq
namespace K
variable [Lib] [ir]
theorem nZ:Lib.fs N.dW=some K.dW:=ir.nZ
theorem wg:Lib.fs N.iL=some K.iL:=ir.wg
theorem sg:Lib.fs N.gq=some K.gq:=ir.sg
end K
end Go.Ev
namespace Go.Ev
open Go
variable [Lib] [cm] [bS] [iv] [ir]
def JC(l:List Int)(lo hi:Int)(j:Nat):Bool:= !decide (lo≤nth l j∧nth l j≤hi∧(0<j→nth l (j-1)<nth l j))
def Oj(l:List Int)(lo hi:Int):Bool:= !((List.range l.length).any (JC l lo hi))
theorem Cs(l:List Int)(lo hi:Int)(hl:l.length≤4294967296):aO 0 N.dW [.t (tL l),I lo,I hi] []=some (B (Oj l lo hi),[]):=by
 refine ay K.nZ rfl ?_
 have loop:∀a b c:D,exS aO K.qR ⟨[.t (tL l),I lo,I hi,a,b,c,.t (tL l),I l.length,I 0],[]⟩=
  some (if(List.range l.length).any (JC l lo hi)=true
   then(.ret,⟨[.t (tL l),I lo,I hi,B false,I (Cm l.length (JC l lo hi)),I (nth l (Cm l.length (JC l lo hi))),.t (tL l),I l.length,I (Cm l.length (JC l lo hi))],[]⟩)
   else(.exit 0,⟨[.t (tL l),I lo,I hi,.und,.und,.und,.t (tL l),I l.length,I l.length],[]⟩)):=by
  intro a b c
  refine Je (fun j=>⟨[.t (tL l),I lo,I hi,.und,.und,.und,.t (tL l),I l.length,I j],[]⟩) l.length (JC l lo hi) (fun j=>(.ret,⟨[.t (tL l),I lo,I hi,B false,I j,I (nth l j),.t (tL l),I l.length,I j],[]⟩)) _ rfl ?_ ?_ ?_ (by simp)
  · intro j hj hp
    simp only[JC,Bool.not_eq_false',decide_eq_true_eq]at hp
    obtain⟨h1,h2,h3⟩:=hp
    cases j with
    | zero=>simp (disch:=omega) only[go_sem,K.eB,↓reduceIte]
    | succ j=>
      have h3:=h3 (by omega)
      rw[Nat.add_sub_cancel]at h3
      simp (disch:=omega) only[go_sem,K.eB,↓reduceIte]
  · intro j hj hp
    simp only[JC,Bool.not_eq_true',decide_eq_false_iff_not]at hp
    refine⟨?_,by simp⟩
    by_cases h1:lo≤nth l j
    · by_cases h2:nth l j≤hi
      · cases j with
        | zero=>exact absurd ⟨h1,h2,fun h=>absurd h (by omega)⟩ hp
        | succ j=>
          have h3:¬nth l j<nth l (j+1):=fun h=>hp ⟨h1,h2,fun _=>by simpa using h⟩
          simp (disch:=omega) only[go_sem,K.eB,↓reduceIte]
      · simp (disch:=omega) only[go_sem,K.eB,↓reduceIte]
    · simp (disch:=omega) only[go_sem,K.eB,↓reduceIte]
  · simp (disch:=omega) only[go_sem,K.eB,↓reduceIte]
 unfold Oj
 simp (disch:=omega) only[go_sem,K.dW,↓reduceIte,loop]
 cases hf:(List.range l.length).any (JC l lo hi)with
 | true=>simp (disch:=omega) only[go_sem,↓reduceIte]
 | false=>simp (disch:=omega) only[go_sem,↓reduceIte,Bool.false_eq_true]
theorem Rl(l:List Int)(n:Int):Oj l 0 (n-1)=oP l n:=by
 unfold Oj oP
 rw[Jf]
 refine congrArg (!·) (congrArg _ (funext fun j=>?_))
 unfold JC
 refine congrArg (!·) (decide_eq_decide.2 ⟨fun h=>⟨h.1,by omega,h.2.2⟩,fun h=>⟨h.1,by omega,h.2.2⟩⟩)
structure ZF where
 st:Int
 fi:Int
 se:Int
 ti:Int
abbrev ZF.e(s:ZF):T:= .agg [tI s.st,tI s.fi,tI s.se,tI s.ti]
structure Mt where
 area:List Int
 hold:Int
 mis:Int
abbrev Mt.e(x:Mt):T:= .agg [tL x.area,tI x.hold,tI x.mis]
structure Keys where
 roads:List Int
 keys:List Int
 out:Bool
abbrev Keys.e(k:Keys):T:= .agg [tL k.roads,tL k.keys,.bool k.out]
end Go.Ev
namespace Go.Ev
open Go
variable [Lib] [cm] [bS] [iv] [ir] [gE] [gF] [jV] [iu]
theorem G1(x:Int):aO 0 N.bH [I x] []=some (B (!decide (plT x)),[]):=by
 refine ay K.kN rfl ?_
 have i:=L3 x 0 2147483648
 unfold plT inT
 by_cases c:x=1099511627776
 · subst c
   simp (disch:=omega) only[go_sem,K.bH,↓reduceIte,Nat.reduceAdd,Nat.reduceSub]
 · by_cases c2:0≤x∧x≤2147483648
   · simp only[c2,and_self,decide_true]at i
     simp (disch:=omega) only[go_sem,K.bH,↓reduceIte,i,c,c2,false_or,and_self,decide_true,Nat.reduceAdd,Nat.reduceSub]
   · simp only[c2,decide_false]at i
     simp (disch:=omega) only[go_sem,K.bH,↓reduceIte,i,c,c2,false_or,decide_false,Nat.reduceAdd,Nat.reduceSub]
theorem Ct(m:aT)(hm:m.places.length≤1000000)(w:Wh)(hl:w.frm.length≤1000000):aO 0 N.cy [.t m.e,.t w.e] []=some (B (mH w m.places.length),[]):=by
 refine ay K.mL rfl ?_
 have i:=L3 w.time 0 2147483648
 have cf:aO 0 N.aF [.t (tL w.frm),.fn N.bH []] []=some (B (w.frm.any fun x=> !decide (plT x)),[]):=x9 w.frm (by omega) N.bH [] (fun x=> !decide (plT x)) (fun x _=>G1 x)
 have e:mH w m.places.length=(decide ((w.frm.length:Int)=m.places.length∧inT w.time)&& !(w.frm.any fun x=> !decide (plT x))):=by
  unfold mH
  rw[Jf,D2 w.frm (fun x=> !decide (plT x))]
 rw[e]
 unfold inT
 generalize (w.frm.any fun x=> !decide (plT x))=r at*
 obtain⟨places,roads⟩:=m
 obtain⟨time,frm⟩:=w
 simp only at*
 clear e
 by_cases c1:(frm.length:Int)=places.length
 · by_cases c2:0≤time∧time≤2147483648
   · simp only[c2,and_self,decide_true]at i
     cases r<;>simp (disch:=omega) only[go_sem,K.cy,↓reduceIte,i,cf,c1,c2,and_self,decide_true,Bool.true_and,Nat.reduceAdd,Nat.reduceSub]
   · simp only[c2,decide_false]at i
     simp (disch:=omega) only[go_sem,K.cy,↓reduceIte,i,cf,c1,c2,and_false,decide_false,Bool.false_and,Nat.reduceAdd,Nat.reduceSub]
 · simp (disch:=omega) only[go_sem,K.cy,↓reduceIte,c1,false_and,decide_false,Bool.false_and,Nat.reduceAdd,Nat.reduceSub]
theorem JD{m:aT}(h:m.ok)(w:Wh)(hl:w.frm.length≤1000000):aO 0 N.dX [.t m.e,.t w.e] []=some (B (cH m w),[]):=by
 refine ay K.nX rfl ?_
 have np:=h.np
 have v:=kY h
 have s:=Ct m (by omega) w hl
 unfold cH
 cases hp:mH w m.places.length with
 | false=>
   rw[hp]at s
   obtain⟨places,roads⟩:=m
   obtain⟨time,frm⟩:=w
   simp only at*
   simp (disch:=omega) only[go_sem,K.dX,↓reduceIte,v,s,Bool.false_and,Nat.reduceAdd,Nat.reduceSub]
 | true=>
   rw[hp]at s
   obtain⟨p1,p2,p3⟩:=pI hp
   have hb:bnd w.frm:=fun x hx=>j8 (p3 x hx)
   have lo:=(zL h w.time (by unfold inT at p2;omega) (by unfold inT at p2;omega) w.frm (by omega) hb).1
   have ll:=kI h w.time p2 none (by simp) (l:=w.frm) (by omega) hb
   have eq:=xg (cB m w.time none w.frm) w.frm (by omega) (by omega)
   generalize cB m w.time none w.frm=c at*
   obtain⟨places,roads⟩:=m
   obtain⟨time,frm⟩:=w
   simp only at*
   clear hb p3
   simp (disch:=omega) only[go_sem,K.dX,↓reduceIte,v,s,lo,eq,Bool.true_and,Nat.reduceAdd,Nat.reduceSub]
def wm(m:aT)(w:Wh)(t:Int):Wh×Int:=if mH w m.places.length=false then(w,6)else if t<w.time∨2147483648<t then(w,8)else(⟨t,cB m t none w.frm⟩,0)
theorem JE{m:aT}(h:m.ok)(w:Wh)(t:Int)(hl:w.frm.length≤1000000):aO 0 N.dj [.t m.e,.t w.e,I t] []=some (.tup [.t (wm m w t).1.e,I (wm m w t).2],[]):=by
 refine ay K.nY rfl ?_
 have np:=h.np
 have v:=kY h
 have s:=Ct m (by omega) w hl
 unfold wm
 cases hp:mH w m.places.length with
 | false=>
   rw[hp]at s
   rw[if_pos rfl]
   obtain⟨places,roads⟩:=m
   obtain⟨time,frm⟩:=w
   simp only at*
   simp (disch:=omega) only[go_sem,K.dj,↓reduceIte,v,s,Nat.reduceAdd,Nat.reduceSub]
 | true=>
   rw[hp]at s
   obtain⟨p1,p2,p3⟩:=pI hp
   have hb:bnd w.frm:=fun x hx=>j8 (p3 x hx)
   unfold inT at p2
   by_cases c1:t<w.time
   · rw[if_neg (by simp),if_pos (.inl c1)]
     obtain⟨places,roads⟩:=m
     obtain⟨time,frm⟩:=w
     simp only at*
     simp (disch:=omega) only[go_sem,K.dj,↓reduceIte,v,s,c1,Nat.reduceAdd,Nat.reduceSub]
   · by_cases c2:2147483648<t
     · rw[if_neg (by simp),if_pos (.inr c2)]
       obtain⟨places,roads⟩:=m
       obtain⟨time,frm⟩:=w
       simp only at*
       simp (disch:=omega) only[go_sem,K.dj,↓reduceIte,v,s,c1,c2,Nat.reduceAdd,Nat.reduceSub]
     · have lo:=(zL h t (by omega) (by omega) w.frm (by omega) hb).1
       rw[if_neg (by simp),if_neg (by omega)]
       generalize cB m t none w.frm=c at*
       obtain⟨places,roads⟩:=m
       obtain⟨time,frm⟩:=w
       simp only at*
       clear hb p3
       simp (disch:=omega) only[go_sem,K.dj,↓reduceIte,v,s,c1,c2,lo,Nat.reduceAdd,Nat.reduceSub]
end Go.Ev
namespace Go.Ev.N
def K0:Nat:=215
def K1:Nat:=216
def K2:Nat:=217
def Rm:Nat:=218
def Rn:Nat:=219
def Ro:Nat:=220
def T3:Nat:=221
def T4:Nat:=222
def T5:Nat:=223
def W8:Nat:=224
def Rq:Nat:=225
def Rr:Nat:=226
def Rs:Nat:=227
def W9:Nat:=228
def Rt:Nat:=229
def Ru:Nat:=230
def T6:Nat:=231
def Ol:Nat:=232
def T7:Nat:=233
def Om:Nat:=234
def On:Nat:=235
def Oo:Nat:=236
def T8:Nat:=237
def Oq:Nat:=238
def Xa:Nat:=239
def Xb:Nat:=240
def D9:Nat:=241
def T9:Nat:=242
def Rv:Nat:=243
def K3:Nat:=244
end Go.Ev.N
namespace Go.Ev.N
def FN:Nat:=245
def Ea:Nat:=246
def Eb:Nat:=247
def Rw:Nat:=248
def Mu:Nat:=249
def Rx:Nat:=250
def FO:Nat:=251
def K4:Nat:=252
def JF:Nat:=253
def Ry:Nat:=254
def Ot:Nat:=255
def Ua:Nat:=256
def eC:Nat:=257
def G2:Nat:=258
def pQ:Nat:=259
def bP:Nat:=260
def bg:Nat:=261
def eQ:Nat:=262
def aP:Nat:=263
def aa:Nat:=264
def cU:Nat:=265
def qm:Nat:=266
def aM:Nat:=267
def bV:Nat:=268
def au:Nat:=269
def cmp_isNaN_int:Nat:=270
end Go.Ev.N
namespace Go.Ev.N
def G3:Nat:=271
def JG:Nat:=272
def JH:Nat:=273
def HZ:Nat:=274
def K5:Nat:=275
def JI:Nat:=276
def Rz:Nat:=277
def RA:Nat:=278
def Ub:Nat:=279
def Uc:Nat:=280
def K6:Nat:=281
def Xc:Nat:=282
def Ou:Nat:=283
def RB:Nat:=284
def RC:Nat:=285
def Ud:Nat:=286
def uK:Nat:=287
def Ue:Nat:=288
def jy:Nat:=289
def fO:Nat:=290
def RD:Nat:=291
def RE:Nat:=292
def K7:Nat:=293
def RF:Nat:=294
def RG:Nat:=295
def Ov:Nat:=296
def aH:Nat:=297
def aI:Nat:=298
def a8:Nat:=299
def bq:Nat:=300
def az:Nat:=301
def ak:Nat:=302
def aN:Nat:=303
def ax:Nat:=304
def aD:Nat:=305
def a7:Nat:=306
def aJ:Nat:=307
def cQ:Nat:=308
end Go.Ev.N
namespace Go.Ev.N
def Ow:Nat:=309
def JJ:Nat:=310
def dq:Nat:=311
def K8:Nat:=312
def JK:Nat:=313
def fP:Nat:=314
def qS:Nat:=315
def dZ:Nat:=316
def RH:Nat:=317
def iD:Nat:=318
def fe:Nat:=319
def RI:Nat:=320
def kZ:Nat:=321
def lf:Nat:=322
def eD:Nat:=323
def cz:Nat:=324
def jd:Nat:=325
def ZG:Nat:=326
def K9:Nat:=327
def Ox:Nat:=328
def fH:Nat:=329
def aE:Nat:=330
def aK:Nat:=331
def Mv:Nat:=332
def JL:Nat:=333
end Go.Ev.N
namespace Go.Ev.K
open Go.Ev
def cJ:C:=(.seq (.ite [m v8,f 1 v3,g l0,u (.ln l0),u (.bin .lss l3 l0)] [] 0 .skip (.exit 0)) (.seq (.blk 1 (.ite [m v6,m v8,u (.ca N.gG 0 [] [.l 1,.l 0]),m l0,y 0 false (.mv v2),y 1 false (.ca N.cq 0 [] [.l 0,.i 2]),u (.pk l2 (.b true) l0)] [] 0 (.reg [m v7,m v8,u (.bs [.l 0] 1),u (.app l2 l0 true 1),w 7 (.mv l0)] []) .skip)) (.reg [m v8,u (.bin .add l0 (.i 1)),w 8 (.mv l0)] [])))
def oE:C:= .loop true [0,1,9,10,11,12,13,14,15,16,17,18,19,20] K.cJ
def kd:C:=(.seq (.ite [m v20,f 1 v17,g l0,u (.ln l0),u (.bin .lss l3 l0)] [] 0 .skip (.exit 6)) (.seq (.blk 7 (.ite [f 1 v18,g l0,m v20,a 1 l1 l0,g l0,f 1 v17,g l0,m v20,a 1 l1 l0,g l0,u (.bin .lss l5 l0)] [] 0 (.seq (.reg [w 1 (.mv (.b false))] []) .ret) .skip)) (.reg [m v20,u (.bin .add l0 (.i 1)),w 20 (.mv l0)] [])))
def oF:C:= .loop true [0,1,2,3,6,7,8,10,12,14,19] K.kd
def ke:C:=(.seq (.ite [m v16,f 0 v4,g l0,m v15,a 2 l1 l0,f 1 l0,g l0,u (.ln l0),u (.bin .lss l7 l0)] [] 0 .skip (.exit 4)) (.seq (.blk 5 (.seq (.ite [f 0 v9,g l0,m v15,a 2 l1 l0,f 1 l0,g l0,u (.ln l0),m v16,u (.bin .leq l1 l0),m l0,y 0 false (.fa v11 0),y 1 false (.ld l0 1 false),y 2 false (.mv v15),y 3 false (.ia l1 l0 2),y 4 false (.fa l0 1),y 5 false (.ld l0 1 false),y 6 false (.ln l0),y 7 false (.mv v16),y 8 false (.bin .leq l1 l0),u (.pk l9 (.b true) l0),m l0,y 0 false (.fa v13 0),y 1 false (.ld l0 1 false),y 2 false (.mv v15),y 3 false (.ia l1 l0 2),y 4 false (.fa l0 1),y 5 false (.ld l0 1 false),y 6 false (.ln l0),y 7 false (.mv v16),y 8 false (.bin .leq l1 l0),u (.pk l9 (.b true) l0)] [] 0 (.seq (.reg [w 1 (.mv (.b false))] []) .ret) .skip) (.seq (.reg [w 17 (.al [.t (.int .i64 (0)),.nil] []),w 18 (.al [.t (.int .i64 (0)),.nil] []),w 19 (.al [.t (.int .i64 (0)),.nil] []),f 0 v9,g l0,m v15,a 2 l1 l0,f 1 l0,g l0,m v16,a 2 l1 l0,h 2 l0,f 0 v11,g l0,m v15,a 2 l1 l0,f 1 l0,g l0,m v16,a 2 l1 l0,h 2 l0,f 0 v13,g l0,m v15,a 2 l1 l0,f 1 l0,g l0,m v16,a 2 l1 l0,h 2 l0,u (.st (.l 29) (.l 18) 2 []),u (.st (.l 29) l10 2 []),u (.st (.l 29) l2 2 [])] [(13,31),(15,31),(17,31),(19,31),(20,31),(22,31),(22,32),(24,31),(24,32),(26,31),(26,32),(28,31),(28,32),(29,31),(29,32)]) (.seq (.ite [h 2 v19,m v5,u (.ca N.cL 0 [] [.l 1,.l 0]),f 0 v4,g l0,m v15,a 2 l1 l0,f 1 l0,g l0,m v16,a 2 l1 l0,h 2 l0,m v5,u (.ca N.cL 0 [] [.l 1,.l 0]),u (.ca N.bX 0 [] [.l 11,.l 0]),u (.un .not l0),m l0,y 0 false (.fa v17 1),y 1 false (.ld l0 1 false),y 2 false (.ln l0),y 3 false (.fa v18 1),y 4 false (.ld l0 1 false),y 5 false (.ln l0),y 6 false (.bin .neq l3 l0),u (.pk l7 (.b true) l0)] [(4,0),(6,0),(8,0),(10,0),(11,0)] 0 (.seq (.reg [w 1 (.mv (.b false))] []) .ret) .skip) (.seq (.reg [w 20 (.mv (.i 0))] []) (.blk 6 K.oF)))))) (.reg [m v16,u (.bin .add l0 (.i 1)),w 16 (.mv l0)] [])))
def oG:C:= .loop true [0,1,2,3,6,7,8,10,12,14,17,18,19,20] K.ke
def kf:C:=(.seq (.ite [m v15,f 0 v4,g l0,u (.ln l0),u (.bin .lss l3 l0)] [] 0 .skip (.exit 2)) (.seq (.blk 3 (.seq (.reg [w 16 (.mv (.i 0))] []) (.blk 4 K.oG))) (.reg [m v15,u (.bin .add l0 (.i 1)),w 15 (.mv l0)] [])))
def oH:C:= .loop true [0,1,2,3,6,7,8,10,12,14,16,17,18,19,20] K.kf
def dq:Fn:={ nargs:=1,vars:=[0,2,3,4,5,6,7,8,9,10,11,12,13,14,15,16,17,18,19,20,21],body:=(.seq (.reg [w 1 (.mv (.b false))] []) (.seq (.ite [m v0,u (.ca N.gM 0 [] [.l 0]),u (.un .not l0)] [] 0 (.seq (.reg [u (.ca N.fP 0 [] []),w 1 (.mv l0)] []) .ret) .skip) (.seq (.reg [m v0,u (.ca N.i6 0 [] [.l 0]),w 2 (.mv l0)] []) (.seq (.reg [m v2,u (.ca N.cj 0 [] [.l 0]),w 3 (.al [.nil,.nil] []),u (.st l0 l1 2 [])] []) (.seq (.reg [m v2,h 2 v3,u (.ca N.bT 0 [] [.l 1,.l 0]),w 4 (.al [.nil] []),u (.st l0 l1 1 [])] []) (.seq (.reg [h 1 v4,u (.ca N.jb 0 [] [.l 0]),m v2,u (.ca N.aA 0 [] [.l 0,.i 90]),u (.bin .add l2 l0),w 5 (.mv l0)] []) (.seq (.reg [m v2,f 1 v3,g l0,u (.ln l0),u (.ca N.bW 0 [] [.l 3,.l 0]),w 6 (.mv l0)] []) (.seq (.reg [w 7 (.nw 1)] []) (.seq (.seq (.reg [w 8 (.mv (.i 0))] []) (.blk 0 K.oE)) (.seq (.reg [h 2 v3,h 1 v4,m v6,m v5,u (.ca N.dZ 0 [] [.l 3,.l 2,.l 1,.l 0]),m l0,u (.ex l0 0),u (.ex l1 1),w 9 (.al [.nil] []),u (.st l0 l2 1 []),w 10 (.mv l2)] []) (.seq (.reg [h 2 v3,h 1 v4,m v7,m v5,u (.ca N.dZ 0 [] [.l 3,.l 2,.l 1,.l 0]),m l0,u (.ex l0 0),u (.ex l1 1),w 11 (.al [.nil] []),u (.st l0 l2 1 []),w 12 (.mv l2)] []) (.seq (.reg [h 2 v3,h 1 v4,m v5,u (.ca N.dZ 0 [] [.l 2,.l 1,.c (.nil),.l 0]),m l0,u (.ex l0 0),u (.ex l1 1),w 13 (.al [.nil] []),u (.st l0 l2 1 []),w 14 (.mv l2)] []) (.seq (.ite [m v10,u (.bin .neq l0 (.i 0)),m l0,y 0 false (.mv v12),y 1 false (.bin .neq l0 (.i 0)),u (.pk l2 (.b true) l0),m l0,y 0 false (.mv v14),y 1 false (.bin .neq l0 (.i 0)),u (.pk l2 (.b true) l0),m l0,y 0 false (.fa v9 0),y 1 false (.ld l0 1 false),y 2 false (.ln l0),y 3 false (.fa v4 0),y 4 false (.ld l0 1 false),y 5 false (.ln l0),y 6 false (.bin .neq l3 l0),u (.pk l7 (.b true) l0),m l0,y 0 false (.fa v11 0),y 1 false (.ld l0 1 false),y 2 false (.ln l0),y 3 false (.fa v4 0),y 4 false (.ld l0 1 false),y 5 false (.ln l0),y 6 false (.bin .neq l3 l0),u (.pk l7 (.b true) l0),m l0,y 0 false (.fa v13 0),y 1 false (.ld l0 1 false),y 2 false (.ln l0),y 3 false (.fa v4 0),y 4 false (.ld l0 1 false),y 5 false (.ln l0),y 6 false (.bin .neq l3 l0),u (.pk l7 (.b true) l0)] [] 0 (.seq (.reg [w 1 (.mv (.b false))] []) .ret) .skip) (.seq (.seq (.reg [w 15 (.mv (.i 0))] []) (.blk 2 K.oH)) (.seq (.reg [u (.ca N.fP 0 [] []),w 1 (.mv l0)] []) .ret))))))))))))))),res:=[(1,none)]}
def fP:Fn:={ nargs:=0,vars:=[0,1,2,4,5,6,7,8],body:=(.seq (.reg [w 0 (.mv (.b false))] []) (.seq (.reg [u (.ca N.kZ 0 [] []),w 1 (.al [.nil,.nil] []),u (.st l0 l1 2 [])] []) (.seq (.reg [h 2 v1,u (.bs [.i 4] 1),u (.bs [.i 0] 1),u (.ca N.cX 0 [] [.l 2,.l 1,.l 0,.i 0]),m l0,u (.ex l0 0),u (.ex l1 1),w 2 (.al [.nil] []),u (.st l0 l2 1 []),m l2] []) (.seq (.reg [h 2 v1,h 1 v2,u (.bs [.i 1] 1),u (.ca N.dZ 0 [] [.l 2,.l 1,.l 0,.i 15]),m l0,u (.ex l0 0),u (.ex l1 1),w 3 (.al [.nil] []),u (.st l0 l2 1 []),w 4 (.mv l2)] []) (.seq (.reg [h 2 v1,u (.ca N.qS 0 [] [.l 0,.i 2,.i 12]),m l0,u (.ex l0 0),u (.ex l1 1),w 5 (.mv l1),w 6 (.mv l1)] []) (.seq (.reg [h 2 v1,u (.bs [.i 2] 1),u (.ca N.iD 0 [] [.l 1,.l 0]),w 7 (.mv l0)] []) (.seq (.reg [m v4,u (.bin .eql l0 (.i 0)),m l0,y 0 true (.ld v3 1 true),y 1 true (.bs [.i 2] 1),y 2 true (.ca N.iL 0 [] [.l 1,.l 0]),u (.pk l3 l0 (.b false)),m l0,y 0 true (.ld v3 1 true),y 1 true (.bs [.i 1] 1),y 2 true (.ca N.iL 0 [] [.l 1,.l 0]),y 3 true (.un .not l0),u (.pk l4 l0 (.b false)),m l0,y 0 true (.mv v6),y 1 true (.bin .eql l0 (.i 0)),u (.pk l2 l0 (.b false)),m l0,y 0 true (.mv v5),y 1 true (.ln l0),y 2 true (.bin .eql l0 (.i 2)),u (.pk l3 l0 (.b false)),m l0,y 0 true (.mv v5),y 1 true (.ia l0 (.i 0) 1),y 2 true (.ld l0 1 false),y 3 true (.bin .eql l0 (.i 1)),u (.pk l4 l0 (.b false)),m l0,y 0 true (.mv v7),y 1 true (.ln l0),y 2 true (.bin .eql l0 (.i 1)),u (.pk l3 l0 (.b false)),m l0,y 0 true (.mv v7),y 1 true (.ia l0 (.i 0) 1),y 2 true (.ld l0 1 false),y 3 true (.bin .eql l0 (.i 1)),u (.pk l4 l0 (.b false)),w 0 (.mv l0)] []) .ret))))))),res:=[(0,none)]}
def Ec:C:=(.its [u (.bin .lss v13 v12)] [] 0 .skip (.exit 3) (.seq (.blk 4 (.seq (.reg [a 10 v11 v13,h 10 l0,w 9 (.al [.t (.int .i64 (0)),.t (.int .i64 (0)),.t (.int .i64 (0)),.t (.int .i64 (0)),.t (.bool false),.t (.bool false),.t (.int .i64 (0)),.t (.int .i64 (0)),.t (.int .i64 (0)),.t (.int .i64 (0))] []),u (.st l0 l1 10 [])] []) (.seq (.reg [g v7,f 0 v9,g l0,a 1 l2 l0,g l0,g v7,f 1 v9,g l0,a 1 l2 l0,g l0,u (.mn [.l 5,.l 0]),f 2 v9,g l0,u (.bin .add l2 l0),w 10 (.mv l0)] []) (.ite [f 5 v9,g l0,u (.un .not l0),m l0,y 0 true (.mv v10),y 1 true (.ld v7 1 false),y 2 true (.fa v9 0),y 3 true (.ld l0 1 false),y 4 true (.ia l2 l0 1),y 5 true (.ld l0 1 false),y 6 true (.ld v7 1 false),y 7 true (.fa v9 1),y 8 true (.ld l0 1 false),y 9 true (.ia l2 l0 1),y 10 true (.ld l0 1 false),y 11 true (.mx [.l 5,.l 0]),y 12 true (.bin .lss l11 l0),u (.pk (.l 13) l0 (.b false))] [] 0 (.seq (.reg [g v7,f 0 v9,g l0,g v7,f 1 v9,g l0,g v7,f 0 v9,g l0,a 1 l2 l0,g l0,m v10,u (.mn [.l 1,.l 0]),g v7,f 1 v9,g l0,a 1 l2 l0,g l0,m v10,u (.mn [.l 1,.l 0]),a 1 (.l 19) (.l 17),u (.st l0 l8 1 []),a 1 (.l 18) (.l 16),u (.st l0 l3 1 [])] [(3,22),(5,22)]) (.reg [w 8 (.mv (.b true))] [])) .skip)))) (.reg [u (.bin .add v13 (.i 1)),w 13 (.mv l0)] [])))
def G4:C:= .loop true [0,1,2,5,6,9,10] K.Ec
def Ed:C:=(.seq (.ite [m v8] [] 0 .skip (.exit 1)) (.blk 2 (.seq (.reg [w 8 (.mv (.b false))] []) (.seq (.reg [f 1 v3,w 11 (.ld l0 1 false),w 12 (.ln l0),w 13 (.mv (.i 0))] []) (.blk 3 K.G4)))))
def G5:C:= .loop true [0,1,2,5,6,9,10,11,12,13] K.Ed
def qS:Fn:={ nargs:=3,vars:=[0,1,2,3,5,6,7,8,9,11,12,38,39,40],body:=(.seq (.reg [w 3 (.bx v0 2),w 4 (.bx v2 1),w 5 (.mv (.c (.nil))),w 6 (.mv (.i 0))] []) (.seq (.blk 0 (.ite [h 2 v3,u (.ca N.dL 0 [] [.l 0]),u (.un .not l0),m l0] [] 0 (.seq (.reg [w 5 (.mv (.c (.nil))),w 6 (.mv (.i 6))] []) .ret) (.ite [m v1,f 0 v3,g l0,u (.ln l0),u (.bin .sub l0 (.i 1)),u (.ca N.eI 0 [] [.l 4,.i 0,.l 0]),u (.un .not l0),m l0] [] 0 (.seq (.reg [w 5 (.mv (.c (.nil))),w 6 (.mv (.i 3))] []) .ret) (.ite [g v4,u (.bin .lss l0 (.i 0)),m l0] [] 0 (.seq (.reg [w 5 (.mv (.c (.nil))),w 6 (.mv (.i 1))] []) .ret) .skip)))) (.seq (.reg [u (.bs [.i 1099511627776] 1),f 0 v3,g l0,u (.ln l0),u (.ca N.bc 1 [] [.l 3,.l 0]),w 7 (.al [.nil] []),u (.st l0 l1 1 [])] []) (.seq (.reg [g v7,m v1,a 1 l1 l0,u (.st l0 (.i 0) 1 [])] []) (.seq (.seq (.reg [w 8 (.mv (.b true))] []) (.blk 1 K.G5)) (.seq (.reg [g v7,u (.ln l0),u (.mf N.lf [.v 7,.v 4]),u (.ca N.dI 0 [] [.l 1,.l 0]),w 5 (.mv l0),w 6 (.mv (.i 0))] []) .ret)))))),res:=[(5,none),(6,none)]}
def pR:C:=(.its [u (.bin .lss (.v 24) v23)] [] 0 .skip (.exit 2) (.seq (.blk 3 (.seq (.reg [m (.v 24),a 2 v22 (.v 24),h 2 l0,w 16 (.al [.t (.int .i64 (0)),.nil] []),w 15 (.mv l3),u (.st l1 l2 2 [])] []) (.seq (.reg [h 2 v9,h 2 v16,g v6,u (.ca N.jd 0 [] [.l 2,.l 1,.l 0]),m l0,u (.ex l0 0),u (.ex l1 1),w 17 (.al [.t (.int .i64 (0)),.nil] []),u (.st l0 l2 2 []),w 18 (.mv l2)] []) (.seq (.ite [m v18,u (.bin .neq l0 (.i 0))] [] 0 (.seq (.reg [h 1 v5,m v18,u (.st v7 l1 1 []),w 8 (.mv l1)] []) .ret) .skip) (.reg [f 1 v14,g l0,m v15,h 2 v17,a 2 l2 l1,u (.st l0 l1 2 [])] []))))) (.reg [u (.bin .add (.v 24) (.i 1)),w 24 (.mv l0)] [])))
def wq:C:= .loop true [0,1,2,3,4,8,10,11,13,15,16,17,18] K.pR
def me:C:=(.its [u (.bin .lss v21 v20)] [] 0 .skip (.exit 0) (.seq (.blk 1 (.seq (.reg [a 2 v19 v21,h 2 l0,w 13 (.al [.nil,.nil] []),u (.st l0 l1 2 [])] []) (.seq (.reg [h 2 v13,u (.ca N.cQ 1 [] [.l 0]),w 14 (.al [.nil,.nil] []),u (.st l0 l1 2 [])] []) (.seq (.seq (.reg [f 1 v13,w 22 (.ld l0 1 false),w 23 (.ln l0),w 24 (.mv (.i 0))] []) (.blk 2 K.wq)) (.reg [m v12,h 2 v14,u (.bs [.l 0] 2),u (.app l2 l0 true 2),w 12 (.mv l0)] []))))) (.reg [u (.bin .add v21 (.i 1)),w 21 (.mv l0)] [])))
def wu:C:= .loop true [0,1,2,3,4,8,10,11,13,14,15,16,17,18,22,23,24] K.me
def dZ:Fn:={ nargs:=4,vars:=[0,1,2,3,4,5,7,8,9,10,11,12,13,15,16,17,18,19,20,47,48,49,56,57,58],body:=(.seq (.reg [w 4 (.bx v0 2),w 5 (.bx v1 1),w 6 (.bx v3 1),w 7 (.al [.nil] []),w 8 (.mv (.i 0))] []) (.seq (.ite [h 2 v4,h 1 v5,u (.ca N.eC 0 [] [.l 1,.l 0]),u (.un .not l0)] [] 0 (.seq (.reg [h 1 v5,u (.st v7 l0 1 []),w 8 (.mv (.i 6))] []) .ret) .skip) (.seq (.reg [h 2 v4,m v2,u (.ca N.fe 0 [] [.l 1,.l 0]),m l0,u (.ex l0 0),u (.ex l1 1),w 9 (.al [.nil,.nil] []),u (.st l0 l2 2 []),w 10 (.mv l2)] []) (.seq (.ite [m v10,u (.bin .neq l0 (.i 0))] [] 0 (.seq (.reg [h 1 v5,m v10,u (.st v7 l1 1 []),w 8 (.mv l1)] []) .ret) .skip) (.seq (.reg [u (.mf N.eD [.v 6]),w 11 (.mv l0)] []) (.seq (.ite [g v6,u (.bin .gtr l0 (.i 2147483648)),m l0,y 0 false (.fa v5 0),y 1 false (.ld l0 1 false),y 2 false (.mv v11),y 3 false (.ca N.av 0 [] [.l 1,.l 0]),u (.pk l4 (.b true) l0)] [] 0 (.seq (.reg [h 1 v5,u (.st v7 l0 1 []),w 8 (.mv (.i 8))] []) .ret) .skip) (.seq (.reg [w 12 (.nw 2)] []) (.seq (.seq (.reg [f 0 v5,w 19 (.ld l0 1 false),w 20 (.ln l0),w 21 (.mv (.i 0))] []) (.blk 0 K.wu)) (.seq (.reg [m v12,u (.ca N.fO 0 [] [.l 0]),u (.bd [.nil] [(0,1,.l 0)]),u (.st v7 l0 1 []),w 8 (.mv (.i 0))] []) .ret))))))))),res:=[(7,some (1,true)),(8,none)]}
def iD:Fn:={ nargs:=2,vars:=[0,1,2,3,4],body:=(.seq (.reg [w 2 (.bx v0 2),w 3 (.bx v1 1),w 4 (.mv (.c (.nil)))] []) (.seq (.reg [f 1 v2,g l0,u (.ln l0),u (.mf N.fH [.v 2,.v 3]),u (.ca N.dI 0 [] [.l 1,.l 0]),w 4 (.mv l0)] []) .ret)),res:=[(4,none)]}
def mO:C:=(.its [u (.bin .lss v9 v8)] [] 0 .skip (.exit 1) (.seq (.blk 2 (.seq (.reg [a 1 v7 v9,g l0,w 6 (.mv l0)] []) (.reg [f 1 v5,g l0,m v6,a 10 l1 l0,f 4 l0,u (.st l0 (.b false) 1 [])] []))) (.reg [u (.bin .add v9 (.i 1)),w 9 (.mv l0)] [])))
def si:C:= .loop true [0,1,2,4,6] K.mO
def fe:Fn:={ nargs:=2,vars:=[0,1,2,4,5,6,8,30,31,32],body:=(.seq (.reg [w 2 (.bx v0 2),w 3 (.al [.nil,.nil] []),w 4 (.mv (.i 0))] []) (.seq (.blk 0 (.ite [h 2 v2,u (.ca N.dL 0 [] [.l 0]),u (.un .not l0),m l0] [] 0 (.seq (.reg [u (.bd [.nil,.nil] []),u (.st v3 l0 2 []),w 4 (.mv (.i 6))] []) .ret) (.ite [m v1,f 1 v2,g l0,u (.ln l0),u (.bin .sub l0 (.i 1)),u (.ca N.dW 0 [] [.l 4,.i 0,.l 0]),u (.un .not l0),m l0] [] 0 (.seq (.reg [u (.bd [.nil,.nil] []),u (.st v3 l0 2 []),w 4 (.mv (.i 4))] []) .ret) .skip))) (.seq (.reg [w 5 (.al [.nil,.nil] []),f 0 v2,g l0,u (.ca N.aE 0 [] [.l 0]),f 1 v2,g l0,u (.ca N.aK 1 [] [.l 0]),u (.bd [.nil,.nil] [(0,1,.l 3),(1,1,.l 0)]),u (.st l7 l0 2 [])] [(0,4),(0,7),(5,1)]) (.seq (.seq (.reg [w 7 (.mv v1),w 8 (.ln l0),w 9 (.mv (.i 0))] []) (.blk 1 K.si)) (.seq (.reg [h 2 v5,u (.st v3 l0 2 []),w 4 (.mv (.i 0))] []) .ret))))),res:=[(3,some (2,true)),(4,none)]}
def kZ:Fn:={ nargs:=0,vars:=[0,1,2,3],body:=(.seq (.reg [w 0 (.al [.nil,.nil] [])] []) (.seq (.reg [u (.bd [.t (.int .i64 (0)),.t (.int .i64 (0))] [(0,1,.i 1),(1,1,.i 1)]),u (.bd [.t (.int .i64 (0)),.t (.int .i64 (0)),.t (.int .i64 (0)),.t (.int .i64 (0)),.t (.bool false),.t (.bool false),.t (.int .i64 (0)),.t (.int .i64 (0)),.t (.int .i64 (0)),.t (.int .i64 (0))] [(2,1,.i 12),(3,1,.i 1),(4,1,.b true),(6,2,.l 0)]),w 1 (.al [.t (.int .i64 (0)),.t (.int .i64 (0)),.t (.int .i64 (0)),.t (.int .i64 (0)),.t (.bool false),.t (.bool false),.t (.int .i64 (0)),.t (.int .i64 (0)),.t (.int .i64 (0)),.t (.int .i64 (0))] []),u (.st l0 l1 10 [])] []) (.seq (.reg [w 2 (.al [.t (.int .i64 (0)),.t (.int .i64 (0)),.t (.int .i64 (0)),.t (.int .i64 (0)),.t (.bool false),.t (.bool false),.t (.int .i64 (0)),.t (.int .i64 (0)),.t (.int .i64 (0)),.t (.int .i64 (0))] []),w 3 (.al [.t (.int .i64 (0)),.t (.int .i64 (0)),.t (.int .i64 (0)),.t (.int .i64 (0)),.t (.bool false),.t (.bool false),.t (.int .i64 (0)),.t (.int .i64 (0)),.t (.int .i64 (0)),.t (.int .i64 (0))] []),h 10 v1,h 10 v1,u (.st l3 l1 10 []),u (.st l3 l1 10 [])] [(3,5)]) (.seq (.reg [f 1 v2,u (.st l0 (.i 1) 1 []),f 0 v3,u (.st l0 (.i 1) 1 []),f 1 v3,u (.st l0 (.i 2) 1 [])] []) (.seq (.reg [u (.bd [.t (.int .i64 (0)),.t (.bool false)] [(1,1,.b true)]),u (.bd [.t (.int .i64 (0)),.t (.bool false)] []),u (.bd [.t (.int .i64 (0)),.t (.bool false)] []),u (.bs [.l 2,.l 1,.l 0] 2),h 10 v2,h 10 v3,u (.bs [.l 1,.l 0] 10),u (.bd [.nil,.nil] [(0,1,.l 3),(1,1,.l 0)]),u (.st v0 l0 2 [])] []) .ret))))),res:=[(0,some (2,true))]}
def lf:Fn:={ nargs:=3,vars:=[0,1,2,4],body:=(.seq (.reg [w 3 (.mv (.b false))] []) (.seq (.reg [g v1,m v0,a 1 l1 l0,g l0,u (.bin .lss l0 (.i 1099511627776)),m l0,y 0 true (.ld v1 1 false),y 1 true (.mv v0),y 2 true (.ia l1 l0 1),y 3 true (.ld l0 1 false),y 4 true (.ld v2 1 false),y 5 true (.bin .leq l1 l0),u (.pk l6 l0 (.b false)),w 3 (.mv l0)] []) .ret)),res:=[(3,none)]}
def eD:Fn:={ nargs:=2,vars:=[0,1,2,3],body:=(.seq (.reg [w 2 (.bx v0 2),w 3 (.mv (.b false))] []) (.seq (.reg [f 1 v2,g l0,u (.mf N.cz [.v 1]),u (.ca N.aa 0 [] [.l 1,.l 0]),w 3 (.mv l0)] []) .ret)),res:=[(3,none)]}
def cz:Fn:={ nargs:=2,vars:=[0,1,2,3],body:=(.seq (.reg [w 2 (.bx v0 2),w 3 (.mv (.b false))] []) (.seq (.reg [g v1,f 0 v2,g l0,u (.bin .lss l2 l0),w 3 (.mv l0)] []) .ret)),res:=[(3,none)]}
def pS:C:=(.its [u (.bin .lss v11 v10)] [] 0 .skip (.exit 0) (.seq (.blk 1 (.seq (.reg [a 1 v9 v11,g l0,w 8 (.mv l0)] []) (.reg [m v7,m v8,f 1 v4,g l0,m v8,a 1 l1 l0,g l0,a 1 l6 l5,u (.st l0 l1 1 [])] []))) (.reg [u (.bin .add v11 (.i 1)),w 11 (.mv l0)] [])))
def wA:C:= .loop true [0,1,6,8] K.pS
def jd:Fn:={ nargs:=3,vars:=[0,1,2,3,4,6,7,8,10,18,19,20],body:=(.seq (.reg [w 3 (.bx v0 2),w 4 (.bx v1 2),w 5 (.al [.t (.int .i64 (0)),.nil] []),w 6 (.mv (.i 0))] []) (.seq (.reg [u (.bs [.i 1099511627776] 1),f 1 v4,g l0,u (.ln l0),u (.ca N.bc 1 [] [.l 3,.l 0]),w 7 (.mv l0)] []) (.seq (.seq (.reg [h 2 v4,m v2,w 9 (.ca N.cM 0 [] [.l 1,.l 0]),w 10 (.ln l0),w 11 (.mv (.i 0))] []) (.blk 0 K.wA)) (.seq (.reg [h 2 v3,f 0 v4,g l0,m v7,u (.bd [.t (.int .i64 (0)),.nil] [(0,1,.l 1),(1,1,.l 0)]),m v2,u (.ca N.dj 0 [] [.l 5,.l 1,.l 0]),u (.ex l0 0),u (.ex l1 1),u (.st v5 l1 2 []),w 6 (.mv l1)] []) .ret)))),res:=[(5,some (2,true)),(6,none)]}
end Go.Ev.K
namespace Go.Ev
class m0 [Lib]:Prop where
 lI:Lib.fs N.dq=some K.dq
 ur:Lib.fs N.fP=some K.fP
 Cu:Lib.fs N.qS=some K.qS
 sW:Lib.fs N.dZ=some K.dZ
 uu:Lib.fs N.iD=some K.iD
 pT:Lib.fs N.fe=some K.fe
 yk:Lib.fs N.kZ=some K.kZ
 ym:Lib.fs N.lf=some K.lf
 pU:Lib.fs N.eD=some K.eD
 mP:Lib.fs N.cz=some K.cz
 sX:Lib.fs N.jd=some K.jd
namespace K
variable [Lib] [m0]
theorem lI:Lib.fs N.dq=some K.dq:=m0.lI
theorem ur:Lib.fs N.fP=some K.fP:=m0.ur
theorem Cu:Lib.fs N.qS=some K.qS:=m0.Cu
theorem sW:Lib.fs N.dZ=some K.dZ:=m0.sW
theorem uu:Lib.fs N.iD=some K.iD:=m0.uu
theorem pT:Lib.fs N.fe=some K.fe:=m0.pT
theorem yk:Lib.fs N.kZ=some K.kZ:=m0.yk
theorem ym:Lib.fs N.lf=some K.lf:=m0.ym
theorem pU:Lib.fs N.eD=some K.eD:=m0.pU
theorem mP:Lib.fs N.cz=some K.cz:=m0.mP
theorem sX:Lib.fs N.jd=some K.jd:=m0.sX
end K
end Go.Ev
namespace Go.Ev.K
open Go.Ev
def fH:Fn:={ nargs:=3,vars:=[0,1,2,4,5],body:=(.seq (.reg [w 3 (.mv (.b false))] []) (.seq (.reg [f 1 v1,g l0,m v0,a 10 l1 l0,h 10 l0,w 4 (.al [.t (.int .i64 (0)),.t (.int .i64 (0)),.t (.int .i64 (0)),.t (.int .i64 (0)),.t (.bool false),.t (.bool false),.t (.int .i64 (0)),.t (.int .i64 (0)),.t (.int .i64 (0)),.t (.int .i64 (0))] []),u (.st l0 l1 10 [])] []) (.seq (.reg [g v2,f 0 v4,g l0,u (.ca N.aS 0 [] [.l 2,.l 0]),g v2,f 1 v4,g l0,u (.ca N.aS 0 [] [.l 2,.l 0]),u (.eqk (.bool) true l4 l0),m l0,y 0 true (.ld v1 2 true),y 1 true (.mv v0),y 2 true (.ca N.gJ 0 [] [.l 1,.l 0,.b false]),y 3 true (.bin .geq l0 (.i 0)),y 4 true (.mv l0),y 0 false (.ld v1 2 true),y 1 false (.mv v0),y 2 false (.ca N.gJ 0 [] [.l 1,.l 0,.b true]),y 3 false (.bin .geq l0 (.i 0)),y 9 true (.pk l4 (.b true) l0),u (.pk l10 l0 (.b false)),w 3 (.mv l0)] [(4,0),(6,0)]) .ret))),res:=[(3,none)]}
def aE:Fn:={ nargs:=1,vars:=[0,2],body:=(.seq (.reg [w 1 (.mv (.c (.nil)))] []) (.itk [m v0,u (.eqk (.sl) false l0 (.c (.nil)))] [] 0 (.seq (.reg [w 1 (.nw 2)] []) .ret) .skip (.seq (.reg [u (.bsr [] 2),m v0,u (.app l1 l0 false 2),w 1 (.mv l0)] []) .ret))),res:=[(1,none)]}
def aK:Fn:={ nargs:=1,vars:=[0,2],body:=(.seq (.reg [w 1 (.mv (.c (.nil)))] []) (.itk [m v0,u (.eqk (.sl) false l0 (.c (.nil)))] [] 0 (.seq (.reg [w 1 (.nw 10)] []) .ret) .skip (.seq (.reg [u (.bsr [] 10),m v0,u (.app l1 l0 false 10),w 1 (.mv l0)] []) .ret))),res:=[(1,none)]}
end Go.Ev.K
namespace Go.Ev
class uv [Lib]:Prop where
 qT:Lib.fs N.fH=some K.fH
 dm:Lib.fs N.aE=some K.aE
 dC:Lib.fs N.aK=some K.aK
namespace K
variable [Lib] [uv]
theorem qT:Lib.fs N.fH=some K.fH:=uv.qT
theorem dm:Lib.fs N.aE=some K.aE:=uv.dm
theorem dC:Lib.fs N.aK=some K.aK:=uv.dC
end K
end Go.Ev
namespace Go.Ev
open Go
variable [Lib] [cm] [bS] [iv] [ir] [gE] [gF] [jV] [iu] [m0] [uv]
abbrev wL(l:List Int):Obj:= .arr 1 false 0 ((l.map (T.int .i64)).map .t)
end Go.Ev
namespace Go.Ev
open Go
variable [Lib] [cm] [bS]
@[go_sem] theorem RJ (l : List Place) : nG 2 (l.map Place.e) = true := by cases l <;> rfl
@[go_sem] theorem Uf (l : List Road) : nG 10 (l.map Road.e) = true := by cases l <;> rfl
@[go_sem] theorem Ug (H : ai) (d : aB) : LB H 0 1 false (some d.obj) = some (.t (tL d.L), H) := by simp only [aB.obj, go_sem]
def aB.ec(d:aB):Nat→List Place×aB
 | 0=>([],d)
 | k+1=>if k=0 then((d.ec k).1++[⟨-10*((d.ec k).2.next 4).1,true⟩],((d.ec k).2.next 4).2)
   else((d.ec k).1++[⟨-10*((d.ec k).2.next 4).1,(((d.ec k).2.next 4).2.one 6).1⟩],(((d.ec k).2.next 4).2.one 6).2)
def aB.G6(d:aB)(i:Int):Road×aB:=
 (⟨i-1-(d.next (min i 2)).1,i,1+((d.next (min i 2)).2.of [11,59,119,4]).1,1+(((d.next (min i 2)).2.of [11,59,119,4]).2.of [9,3,19]).1,true,false,1,1,0,0⟩,
   (((d.next (min i 2)).2.of [11,59,119,4]).2.of [9,3,19]).2)
def aB.kg(d:aB):Nat→List Road×aB
 | 0=>([],d)
 | k+1=>((d.kg k).1++[((d.kg k).2.G6 (k+1)).1],((d.kg k).2.G6 (k+1)).2)
def aB.pV(d:aB)(n:Int):Road×aB:=
 let a:=d.next n
 let b:=a.2.next n
 let l:=b.2.of [11,59,199]
 let r:=l.2.of [9,3]
 let w:=r.2.next 5
 let c:=w.2.one 6
 (⟨a.1,b.1,1+l.1,1+r.1,decide (0<w.1),c.1,1,1,0,0⟩,c.2)
def aB.more(n:Int)(l:List Road)(d:aB):Nat→List Road×aB
 | 0=>(l,d)
 | k+1=>if l.length<10 then aB.more n (if(d.pV n).1.frm=(d.pV n).1.to then l else l++[(d.pV n).1]) (d.pV n).2 k else(l,d)
def aB.sY(d:aB):Nat:=if d.L.length=0 then 4 else(2+(d.next 6).1).toNat
def aB.JM(d:aB):List Place×aB:=(d.next 6).2.ec d.sY
def aB.AQ(d:aB):List Road×aB:=d.JM.2.kg (d.sY-1)
def aB.Mw(d:aB):List Road×aB:=aB.more d.sY d.AQ.1 (d.AQ.2.next 4).2 (d.AQ.2.next 4).1.toNat
def aB.Oy(d:aB):aT×aB:=(⟨d.JM.1,d.Mw.1⟩,d.Mw.2)
theorem aB.kh{d:aB}(h:d.dn):∀n,(d.ec n).2.dn
 | 0=>h
 | n+1=>by
   unfold aB.ec
   split
   · exact aB.aV (aB.kh h n) 4
   · exact aB.x7 (aB.aV (aB.kh h n) 4) 6
theorem aB.pW(d:aB):∀n,(d.ec n).1.length=n
 | 0=>rfl
 | n+1=>by
   unfold aB.ec
   split<;>simp[d.pW n]
theorem aB.Ee{d:aB}(h:d.dn)(i:Int):(d.G6 i).2.dn:=aB.pF (aB.pF (aB.aV h _) _) _
theorem aB.nu{d:aB}(h:d.dn):∀n,(d.kg n).2.dn
 | 0=>h
 | n+1=>aB.Ee (aB.nu h n) _
theorem aB.rE(d:aB):∀n,(d.kg n).1.length=n
 | 0=>rfl
 | n+1=>by simp[aB.kg,d.rE n]
theorem aB.yn{d:aB}(h:d.dn)(n:Int):(d.pV n).2.dn:=by
 unfold aB.pV;simp only
 exact aB.x7 (aB.aV (aB.pF (aB.pF (aB.aV (aB.aV h _) _) _) _) _) _
theorem aB.zM(n:Int):∀(k:Nat) (l:List Road) {d:aB},d.dn→(aB.more n l d k).2.dn
 | 0,l,d,h=>h
 | k+1,l,d,h=>by
   unfold aB.more
   split
   · exact aB.zM n k _ (aB.yn h n)
   · exact h
theorem aB.G7{d:aB}(h:d.dn):d.Oy.2.dn:=
 aB.zM _ _ _ (aB.aV (aB.nu (aB.kh (aB.aV h _) _) _) _)
abbrev AR:List D:=[I 0,I 0,I 12,I 10,B true,B false,I 1,I 1,I 0,I 0]
theorem G8(d:aB)(hd:d.dn)(n:Nat)(hn:n≤8)(a b c e f:D):
 exS aO K.ot ⟨[.bp 0 0,.bp 1 0,.bp 2 0,I n,I 0,a,b,c,e,f],[d.obj,.box [.nil,.nil],.box [.ref 3 0 0,.ref 4 0 0],.arr 2 false 0 [],.arr 10 false 0 []]⟩=
 some (.exit 0,⟨[.bp 0 0,.bp 1 0,.bp 2 0,I n,I n,.und,.und,.und,.und,.und],[(d.ec n).2.obj,.box [.nil,.nil],.box [.ref 3 0 (d.ec n).1.length,.ref 4 0 0],.arr 2 false 0 (((d.ec n).1.map Place.e).map .t),.arr 10 false 0 []]⟩):=by
 refine cE (fun j=>⟨[.bp 0 0,.bp 1 0,.bp 2 0,I n,I j,.und,.und,.und,.und,.und],[(d.ec j).2.obj,.box [.nil,.nil],.box [.ref 3 0 (d.ec j).1.length,.ref 4 0 0],.arr 2 false 0 (((d.ec j).1.map Place.e).map .t),.arr 10 false 0 []]⟩) n rfl ?_ ?_ (by simp)
 · intro j hj
   have ln:=d.pW j
   have lt:=aB.kh hd j
   simp only[aB.ec]
   generalize d.ec j=s at*
   obtain⟨l,d1⟩:=s
   simp only at ln lt ⊢
   have h1:=fN d1 4 (by omega) lt
   have b1:=d1.dA 4
   have b2:=d1.dB (n:=4) (by omega)
   have l1:=aB.aV lt 4
   generalize d1.next 4=a1 at*
   obtain⟨x,d2⟩:=a1
   simp only at h1 b1 b2 l1 ⊢
   by_cases j0:j=0
   · subst j0
     simp (disch:=omega) only[go_sem,K.hX,h1,↓reduceIte,Nat.reduceAdd,Nat.reduceSub]
   · have h2:=I4 d2 6 (by omega) (by omega) l1
     simp (disch:=omega) only[go_sem,K.hX,h1,h2,j0,↓reduceIte,Nat.reduceAdd,Nat.reduceSub]
 · simp (disch:=omega) only[go_sem,K.hX,↓reduceIte]
theorem G9(d:aB)(hd:d.dn)(n:Nat)(hn:n≤8)(h1:1≤n)(ps:List Place)(a b c e:D):
 exS aO K.ou ⟨[.bp 0 0,.bp 1 0,.bp 2 0,I n,a,.bp 5 0,I 1,b,c,e],[d.obj,.box [.nil,.nil],.box [.ref 3 0 ps.length,.ref 4 0 0],.arr 2 false 0 ((ps.map Place.e).map .t),.arr 10 false 0 [],.box AR]⟩=
 some (.exit 2,⟨[.bp 0 0,.bp 1 0,.bp 2 0,I n,.und,.bp 5 0,I n,.und,.und,.und],[(d.kg (n-1)).2.obj,.box [.nil,.nil],.box [.ref 3 0 ps.length,.ref 4 0 (d.kg (n-1)).1.length],.arr 2 false 0 ((ps.map Place.e).map .t),.arr 10 false 0 (((d.kg (n-1)).1.map Road.e).map .t),.box AR]⟩):=by
 refine cE (fun j=>⟨[.bp 0 0,.bp 1 0,.bp 2 0,I n,.und,.bp 5 0,I (j+1),.und,.und,.und],[(d.kg j).2.obj,.box [.nil,.nil],.box [.ref 3 0 ps.length,.ref 4 0 (d.kg j).1.length],.arr 2 false 0 ((ps.map Place.e).map .t),.arr 10 false 0 (((d.kg j).1.map Road.e).map .t),.box AR]⟩) (n-1) rfl ?_ ?_ (by simp)
 · intro j hj
   have ln:=d.rE j
   have lt:=aB.nu hd j
   simp only[aB.kg]
   generalize d.kg j=s at*
   obtain⟨l,d1⟩:=s
   simp only[aB.G6]at ln lt ⊢
   have h1:=fN d1 (min ((j:Int)+1) 2) (by omega) lt
   have b1:=d1.dA (min ((j:Int)+1) 2)
   have b2:=d1.dB (n:=min ((j:Int)+1) 2) (by omega)
   have l1:=aB.aV lt (min ((j:Int)+1) 2)
   generalize d1.next (min ((j:Int)+1) 2)=a1 at*
   obtain⟨x,d2⟩:=a1
   simp only at h1 b1 b2 l1 ⊢
   have h2:=LX d2 [11,59,119,4] (by simp) (by simp) l1
   have m2:=d2.vV (l:=[11,59,119,4]) (by simp)
   have l2:=aB.pF l1 [11,59,119,4]
   generalize d2.of [11,59,119,4]=a2 at*
   obtain⟨y,d3⟩:=a2
   simp only[tL,List.map_cons,List.map_nil]at h2 m2 l2 ⊢
   have h3:=LX d3 [9,3,19] (by simp) (by simp) l2
   have m3:=d3.vV (l:=[9,3,19]) (by simp)
   generalize d3.of [9,3,19]=a3 at*
   obtain⟨z,d4⟩:=a3
   simp only[tL,List.map_cons,List.map_nil,List.mem_cons,List.not_mem_nil,or_false]at h3 m2 m3 ⊢
   simp (disch:=omega) only[go_sem,K.jZ,h1,h2,h3,↓reduceIte,Nat.reduceAdd,Nat.reduceSub]
 · simp (disch:=omega) only[go_sem,K.jZ,↓reduceIte]
   rw[show((n-1:Nat):Int)+1=n by omega]
abbrev Cv(d:aB)(ps:List Place)(l:List Road):ai:=[d.obj,.box [.nil,.nil],.box [.ref 3 0 ps.length,.ref 4 0 l.length],.arr 2 false 0 ((ps.map Place.e).map .t),.arr 10 false 0 ((l.map Road.e).map .t),.box AR]
theorem Ha(d:aB)(hd:d.dn)(n:Int)(hn:1≤n)(hn2:n≤8)(ps:List Place)(l:List Road)(hl:l.length<10)(k:Nat)(hk:k≤10):
 eO true [4,6,7,9] 6 (exS aO K.dv ⟨[.bp 0 0,.bp 1 0,.bp 2 0,I n,.und,.bp 5 0,.und,.und,I (k+1),.und],Cv d ps l⟩)=
 some ⟨[.bp 0 0,.bp 1 0,.bp 2 0,I n,.und,.bp 5 0,.und,.und,I k,.und],Cv (d.pV n).2 ps (if(d.pV n).1.frm=(d.pV n).1.to then l else l++[(d.pV n).1])⟩:=by
 unfold aB.pV Cv
 simp only
 have h1:=fN d n (by omega) hd
 have l1:=aB.aV hd n
 generalize d.next n=a1 at*
 obtain⟨x1,d1⟩:=a1
 simp only at h1 l1 ⊢
 have h2:=fN d1 n (by omega) l1
 have l2:=aB.aV l1 n
 generalize d1.next n=a2 at*
 obtain⟨x2,d2⟩:=a2
 simp only at h2 l2 ⊢
 have h3:=LX d2 [11,59,199] (by simp) (by simp) l2
 have m3:=d2.vV (l:=[11,59,199]) (by simp)
 have l3:=aB.pF l2 [11,59,199]
 generalize d2.of [11,59,199]=a3 at*
 obtain⟨x3,d3⟩:=a3
 simp only[tL,List.map_cons,List.map_nil]at h3 m3 l3 ⊢
 have h4:=LX d3 [9,3] (by simp) (by simp) l3
 have m4:=d3.vV (l:=[9,3]) (by simp)
 have l4:=aB.pF l3 [9,3]
 generalize d3.of [9,3]=a4 at*
 obtain⟨x4,d4⟩:=a4
 simp only[tL,List.map_cons,List.map_nil]at h4 m4 l4 ⊢
 have h5:=fN d4 5 (by omega) l4
 have l5:=aB.aV l4 5
 generalize d4.next 5=a5 at*
 obtain⟨x5,d5⟩:=a5
 simp only at h5 l5 ⊢
 have h6:=I4 d5 6 (by omega) (by omega) l5
 generalize d5.one 6=a6 at*
 obtain⟨x6,d6⟩:=a6
 simp only[List.mem_cons,List.not_mem_nil,or_false]at h6 m3 m4 ⊢
 by_cases e:x1=x2
 · simp (disch:=omega) only[go_sem,K.dv,h1,h2,h3,h4,h5,h6,e,↓reduceIte,Nat.reduceAdd,Nat.reduceSub]
 · simp (disch:=omega) only[go_sem,K.dv,h1,h2,h3,h4,h5,h6,e,↓reduceIte,Nat.reduceAdd,Nat.reduceSub]
theorem zN(n:Int)(hn:1≤n)(hn2:n≤8)(ps:List Place):∀(k:Nat) (d:aB) (l:List Road),d.dn→l.length≤10→k≤10→
 ∃z:Int,lX true [4,6,7,9] (exS aO K.dv) ⟨[.bp 0 0,.bp 1 0,.bp 2 0,I n,.und,.bp 5 0,.und,.und,I k,.und],Cv d ps l⟩=
 some (.exit 4,⟨[.bp 0 0,.bp 1 0,.bp 2 0,I n,.und,.bp 5 0,.und,.und,I z,.und],Cv (aB.more n l d k).2 ps (aB.more n l d k).1⟩)
 | 0,d,l,hd,hl,hk=>by
   refine⟨0,de ?_ (by simp)⟩
   simp (disch:=omega) only[go_sem,K.dv,aB.more,↓reduceIte,Nat.reduceAdd,Nat.reduceSub]
 | k+1,d,l,hd,hl,hk=>by
   by_cases h:l.length<10
   · have hr:=Ha d hd n hn hn2 ps l h k (by omega)
     obtain⟨z,hz⟩:=zN n hn hn2 ps k (d.pV n).2 (if(d.pV n).1.frm=(d.pV n).1.to then l else l++[(d.pV n).1]) (aB.yn hd n) (by split<;>(try rw[List.length_append,List.length_singleton])<;>omega) (by omega)
     refine⟨z,jK hr ?_⟩
     rw[hz]
     simp only[aB.more,if_pos h]
   · refine⟨(k:Int)+1,de ?_ (by simp)⟩
     simp (disch:=omega) only[go_sem,K.dv,aB.more,↓reduceIte,Nat.reduceAdd,Nat.reduceSub]
theorem aB.FP(n:Int):∀(k:Nat) (l:List Road) (d:aB),l.length≤10→(aB.more n l d k).1.length≤10
 | 0,l,d,h=>h
 | k+1,l,d,h=>by
   unfold aB.more
   split
   · exact aB.FP n k _ _ (by split<;>(try rw[List.length_append,List.length_singleton])<;>omega)
   · exact h
theorem aB.xh(d:aB):2≤d.sY∧d.sY≤7:=by
 unfold aB.sY
 have:=d.dA 6
 have:=d.dB (n:=6) (by omega)
 split<;>omega
theorem RK(d:aB)(hd:d.dn):aO 0 N.cj [.bp 0 0] [d.obj]=some (.t d.Oy.1.e,[d.Oy.2.obj]):=by
 refine ay K.lB rfl ?_
 have nb:=d.xh
 unfold aB.Oy
 have h0:=fN d 6 (by omega) hd
 have l0:=aB.aV hd 6
 have b1:=d.dA 6
 have b2:=d.dB (n:=6) (by omega)
 have hL:=d.NJ 6
 have hN:(d.sY:Int)=if d.L.length=0 then 4 else 2+(d.next 6).1:=by unfold aB.sY;split<;>omega
 have e1:d.Mw=aB.more d.sY d.AQ.1 (d.AQ.2.next 4).2 (d.AQ.2.next 4).1.toNat:=rfl
 have e2:d.AQ=d.JM.2.kg (d.sY-1):=rfl
 have e3:d.JM=(d.next 6).2.ec d.sY:=rfl
 generalize d.Mw=X at*
 generalize d.AQ=R at*
 generalize d.JM=P at*
 generalize d.sY=n at*
 generalize d.next 6=a at*
 obtain⟨x,d1⟩:=a
 simp only at h0 l0 b1 b2 hL hN e3 ⊢
 have q1:=G8 d1 l0 n (by omega)
 have lP:=aB.kh l0 n
 have nP:=d1.pW n
 rw[← e3]at q1 lP nP
 obtain⟨ps,d2⟩:=P
 simp only at q1 lP nP e2 ⊢
 have q2:=G9 d2 lP n (by omega) (by omega) ps
 have lR:=aB.nu lP (n-1)
 have nR:=d2.rE (n-1)
 rw[← e2]at q2 lR nR
 obtain⟨rs,d3⟩:=R
 simp only at q2 lR nR e1 ⊢
 have h4:=fN d3 4 (by omega) lR
 have l4:=aB.aV lR 4
 have b3:=d3.dA 4
 have b4:=d3.dB (n:=4) (by omega)
 generalize d3.next 4=c at*
 obtain⟨y,d4⟩:=c
 simp only at h4 l4 b3 b4 e1 ⊢
 obtain⟨z,q3⟩:=zN n (by omega) (by omega) ps y.toNat d4 rs l4 (by omega) (by omega)
 rw[← e1]at q3
 have q3:=sN (vs:=[.bp 0 0,.bp 1 0,.bp 2 0,I n,.und,.bp 5 0,I n,.und,I y.toNat,.und]) q3
 have ey:(y.toNat:Int)=y:=by omega
 rw[ey]at q3
 obtain⟨xs,d5⟩:=X
 have fin:∀k:Int,(exS aO K.ov ⟨[.bp 0 0,.bp 1 0,.bp 2 0,I n,.und,.bp 5 0,I n,.und,I y,.und],Cv d4 ps rs⟩)=
  some (.exit 4,⟨[.bp 0 0,.bp 1 0,.bp 2 0,I n,.und,.bp 5 0,.und,.und,I z,.und],Cv d5 ps xs⟩):=fun _=>q3
 clear q3
 have q3:=fin 0
 clear fin
 simp only[Cv]at q3
 by_cases c0:d.L.length=0
 · rw[if_pos c0]at hN
   obtain rfl:n=4:=by omega
   have e4:((4:Nat):Int)=4:=rfl
   simp only[e4]at q1 q2 q3
   simp (disch:=omega) only[go_sem,K.cj,↓reduceIte,h0,c0,q1,q2,q3,h4,hL,Nat.reduceAdd,Nat.reduceSub]
 · rw[if_neg c0]at hN
   simp (disch:=omega) only[go_sem,K.cj,↓reduceIte,h0,c0,q1,q2,q3,h4,hL,hN.symm,Nat.reduceAdd,Nat.reduceSub]
theorem aB.Mx(d:aB){n:Nat}{i:Int}(h1:1≤i)(h2:i<n):(d.G6 i).1.ok n:=by
 have b1:=d.dA (min i 2)
 have b2:=d.dB (n:=min i 2) (by omega)
 have m2:=(d.next (min i 2)).2.vV (l:=[11,59,119,4]) (by simp)
 have m3:=((d.next (min i 2)).2.of [11,59,119,4]).2.vV (l:=[9,3,19]) (by simp)
 simp only[List.mem_cons,List.not_mem_nil,or_false]at m2 m3
 unfold aB.G6
 constructor<;>(simp only;omega)
theorem aB.Cw(d:aB){n:Nat}:∀k,k+1≤n→∀r∈(d.kg k).1,r.ok n
 | 0,_,r,hr=>by simp[aB.kg]at hr
 | k+1,h,r,hr=>by
   simp only[aB.kg,List.mem_append,List.mem_singleton]at hr
   rcases hr with hr | rfl
   · exact d.Cw k (by omega) r hr
   · exact aB.Mx _ (by omega) (by omega)
theorem aB.My(d:aB){n:Nat}(hn:1≤n)(hne:(d.pV n).1.frm≠(d.pV n).1.to):(d.pV n).1.ok n:=by
 unfold aB.pV at hne ⊢
 simp only at hne ⊢
 have b1:=d.dA n
 have b2:=d.dB (n:=(n:Int)) (by omega)
 generalize d.next n=a1 at*
 obtain⟨x1,d1⟩:=a1
 simp only at*
 have c1:=d1.dA n
 have c2:=d1.dB (n:=(n:Int)) (by omega)
 generalize d1.next n=a2 at*
 obtain⟨x2,d2⟩:=a2
 simp only at*
 have m3:=d2.vV (l:=[11,59,199]) (by simp)
 generalize d2.of [11,59,199]=a3 at*
 obtain⟨x3,d3⟩:=a3
 simp only at*
 have m4:=d3.vV (l:=[9,3]) (by simp)
 generalize d3.of [9,3]=a4 at*
 obtain⟨x4,d4⟩:=a4
 simp only[List.mem_cons,List.not_mem_nil,or_false]at m3 m4 ⊢
 constructor<;>(simp only;omega)
theorem aB.JN{n:Nat}(hn:1≤n):∀(k:Nat) (l:List Road) (d:aB),(∀r∈l,r.ok n)→∀r∈(aB.more n l d k).1,r.ok n
 | 0,l,d,h=>h
 | k+1,l,d,h=>by
   unfold aB.more
   split
   · refine aB.JN hn k _ _ ?_
     split
     · exact h
     · rename_i hne
       intro r hr
       rcases List.mem_append.1 hr with hr | hr
       · exact h r hr
       · rw[List.mem_singleton.1 hr];exact d.My hn hne
   · exact h
theorem aB.Cx(n:Int):∀(k:Nat) (l:List Road) (d:aB),l.length≤(aB.more n l d k).1.length
 | 0,l,d=>Nat.le_refl _
 | k+1,l,d=>by
   unfold aB.more
   split
   · refine Nat.le_trans ?_ (aB.Cx n k _ _)
     split<;>(try rw[List.length_append])<;>omega
   · exact Nat.le_refl _
theorem aB.Cy(d:aB):∀k,∀p∈(d.ec k).1, -30≤p.h∧p.h≤0
 | 0,p,hp=>by simp[aB.ec]at hp
 | k+1,p,hp=>by
   have b1:=(d.ec k).2.dA 4
   have b2:=(d.ec k).2.dB (n:=4) (by omega)
   unfold aB.ec at hp
   split at hp
   all_goals
    simp only[List.mem_append,List.mem_singleton]at hp
    rcases hp with hp | rfl
    · exact d.Cy k p hp
    · simp only;omega
theorem aB.yo(d:aB):d.Oy.1.places.length=d.sY:=aB.pW _ _
theorem aB.zO(d:aB):d.sY-1≤d.Oy.1.roads.length∧d.Oy.1.roads.length≤10:=by
 have nb:=d.xh
 have e:d.AQ.1.length=d.sY-1:=aB.rE _ _
 constructor
 · rw[← e];exact aB.Cx _ _ _ _
 · exact aB.FP _ _ _ _ (by omega)
theorem aB.JO(d:aB):d.Oy.1.ok:=by
 have nb:=d.xh
 have h1:=d.yo
 have h2:=d.zO
 refine⟨by omega,by omega,fun p hp=>?_,?_⟩
 · have:=aB.Cy _ _ p hp;omega
 · rw[h1]
   exact aB.JN (by omega) _ _ _ (aB.Cw _ _ (by omega))
@[go_sem] theorem Xd (l : List Spn) : nG 2 (l.map Spn.e) = true := by cases l <;> rfl
@[go_sem] theorem ack (l : List Spn) (k : Nat) (a b : Int) : (List.map D.t (List.map Spn.e l)).set k (D.t (T.agg [tI a, tI b])) = List.map D.t (List.map Spn.e (l.set k ⟨a, b⟩)) := by
 rw[List.map_set,List.map_set]
@[go_sem] theorem adB (H : ai) (sz : Nat) (a b c d e f : T) : zA H sz [.t a, .t b, .t c, .t d, .t e, .t f] = if b6 sz [a, b, c, d, e, f] = true then some (.t (.sl [a, b, c, d, e, f]), H) else none := qw H sz [a, b, c, d, e, f]
@[go_sem] theorem adC (H : ai) (sz : Nat) (a b c d e f g : T) : zA H sz [.t a, .t b, .t c, .t d, .t e, .t f, .t g] = if b6 sz [a, b, c, d, e, f, g] = true then some (.t (.sl [a, b, c, d, e, f, g]), H) else none := qw H sz [a, b, c, d, e, f, g]
@[go_sem] theorem adD (H : ai) (sz : Nat) (a b c d e f g h : T) : zA H sz [.t a, .t b, .t c, .t d, .t e, .t f, .t g, .t h] = if b6 sz [a, b, c, d, e, f, g, h] = true then some (.t (.sl [a, b, c, d, e, f, g, h]), H) else none := qw H sz [a, b, c, d, e, f, g, h]
@[go_sem] theorem Xe {α β γ : Type} {l : List α} {g : α → β} {f : β → γ} {x : γ} {j : Nat} (h : j = l.length) : (List.map f (List.map g l) ++ [x])[j]? = some x := by
 rw[List.getElem?_append_right (by simp;omega)];simp[h]
@[go_sem] theorem ZH {α β γ : Type} {l : List α} {g : α → β} {f : β → γ} {x y : γ} {j : Nat} (h : j = l.length) : (List.map f (List.map g l) ++ [x]).set j y = List.map f (List.map g l) ++ [y] := by
 rw[List.set_append_right _ _ (by simp;omega)];simp[h]
def aB.Xf(d:aB):Spn×aB:=
 let a:=d.of [0,1000,5000,20000, -5000, -20000,4999,100]
 let b:=a.2.of [0,1,1000,6000]
 let c:=b.2.of [0,1,500]
 let w:=c.2.one 9
 (if w.1=true then⟨-1125899906842624,1125899906842624⟩else⟨a.1-b.1,a.1+c.1⟩,w.2)
def aB.FQ(d:aB):Nat→List Spn×aB
 | 0=>([],d)
 | k+1=>((d.FQ k).1++[((d.FQ k).2.Xf).1],((d.FQ k).2.Xf).2)
def aB.acm(d:aB)(m:aT):List Spn×aB:=d.FQ m.roads.length
theorem JP{gc:Bool}{dead:List Nat}{c:C}{vs:List D}{H:ai}(P:Nat→St→Prop)(n:Nat)(Q:Ex×St→Prop)(h0:P 0 ⟨iY dead vs,H⟩)
 (hs:∀j st,j<n→P j st→(∃st',eO gc dead st.H.length (exS aO c st)=some st'∧P (j+1) st')∨∃q,exS aO c st=some q∧q.1≠ .normal∧Q q)
 (he:∀st,P n st→∃q,exS aO c st=some q∧q.1≠ .normal∧Q q):∃q,exS aO (.loop gc dead c) ⟨vs,H⟩=some q∧Q q:=by
 have key:∀(k j:Nat) (st:St),j+k=n→P j st→∃q,lX gc dead (exS aO c) st=some q∧Q q:=by
  intro k
  induction k with
  | zero=>
    intro j st hj hp
    obtain⟨q,h1,h2,h3⟩:=he st (by rw[← hj];exact hp)
    exact⟨q,de h1 h2,h3⟩
  | succ k ih=>
    intro j st hj hp
    rcases hs j st (by omega) hp with⟨st',h1,h2⟩ | ⟨q,h1,h2,h3⟩
    · obtain⟨q,h3,h4⟩:=ih (j+1) st' (by omega) h2
      exact⟨q,jK h1 h3,h4⟩
    · exact⟨q,de h1 h2,h3⟩
 exact key n 0 _ (by omega) h0
theorem Xg(l:List Int):aO 0 N.i6 [.t (tL l)] []=some (.bp 0 0,[aB.obj ⟨l,0⟩]):=by
 refine ay K.sI rfl ?_
 simp (disch:=omega) only[go_sem,K.i6,↓reduceIte,aB.obj,Nat.reduceAdd,Nat.reduceSub]
theorem Xh{d:aB}(hd:d.dn)(n:Int)(h1:1≤n)(hn:n≤4611686018427387904):
 ∃(v:Int) (e:aB),aO 0 N.aA [.bp 0 0,I n] [d.obj]=some (I v,[e.obj])∧e.dn∧0≤v∧v<n:=
 ⟨_,_,fN d n hn hd,aB.aV hd n,d.dA n,d.dB h1⟩
theorem acn{d:aB}(hd:d.dn)(n:Int)(h1:0≤n)(hn:n≤4611686018427387904):
 ∃(b:Bool) (e:aB),aO 0 N.cq [.bp 0 0,I n] [d.obj]=some (B b,[e.obj])∧e.dn:=
 ⟨_,_,I4 d n h1 hn hd,aB.x7 hd n⟩
theorem Xi{d:aB}(hd:d.dn):
 ∃(m:aT) (e:aB),aO 0 N.cj [.bp 0 0] [d.obj]=some (.t m.e,[e.obj])∧e.dn∧m.ok∧2≤m.places.length∧m.places.length≤7∧1≤m.roads.length∧m.roads.length≤10:=by
 have b:=d.xh
 have p:=d.yo
 have r:=d.zO
 exact⟨_,_,RK d hd,aB.G7 hd,d.JO,by omega,by omega,by omega,by omega⟩
end Go.Ev
namespace Go.Ev
open Go
variable [Lib] [cm] [bS] [iv] [ir]
abbrev never:Int:=1099511627776
abbrev Wh.box(w:Wh):Obj:= .box [I w.time,.t (tL w.frm)]
structure Req where
 x:Mt
 s:ZF
 k:Keys
 b:Bel
 t:Int
 from_:Int
abbrev Req.e(r:Req):T:= .agg [tL r.x.area,tI r.x.hold,tI r.x.mis,tI r.s.st,tI r.s.fi,tI r.s.se,tI r.s.ti,tL r.k.roads,tL r.k.keys,.bool r.k.out,.sl (r.b.worlds.map World.e),tI r.t,tI r.from_]
structure Req.sz(r:Req):Prop where
 hx:r.x.area.length≤1000000
 hk:r.k.roads.length≤1000000
 hk2:r.k.keys.length≤1000000
 hb:r.b.sz
section
variable (x : Mt) (s : ZF) (k : Keys) (b : Bel) (hx : x.area.length ≤ 1000000) (hk : k.roads.length ≤ 1000000) (hk2 : k.keys.length ≤ 1000000) (hb : b.sz)
include hx hk hk2 hb
end
end Go.Ev
namespace Go.Ev
open Go
variable [Lib] [cm] [bS] [iv] [ir]
section
variable (area : List Int) (ha : area.length ≤ 1000000) (xs : List World) (hx : xs.length ≤ 1000000)
include ha hx
end
end Go.Ev
namespace Go.Ev.K
open Go.Ev
def cM:Fn:={ nargs:=2,vars:=[0,1,2,3,4],body:=(.seq (.reg [w 2 (.bx v0 2),w 3 (.bx v1 1),w 4 (.mv (.c (.nil)))] []) (.seq (.reg [f 1 v2,g l0,u (.ln l0),u (.mf N.bG [.v 2,.v 3]),u (.ca N.dI 0 [] [.l 1,.l 0]),w 4 (.mv l0)] []) .ret)),res:=[(4,none)]}
def bG:Fn:={ nargs:=3,vars:=[0,1,2,4],body:=(.seq (.reg [w 3 (.mv (.b false))] []) (.seq (.reg [f 1 v1,g l0,m v0,a 1 l1 l0,g l0,g v2,u (.bin .leq l1 l0),w 3 (.mv l0)] []) .ret)),res:=[(3,none)]}
end Go.Ev.K
namespace Go.Ev
class lr [Lib]:Prop where
 kO:Lib.fs N.cM=some K.cM
 jz:Lib.fs N.bG=some K.bG
namespace K
variable [Lib] [lr]
theorem kO:Lib.fs N.cM=some K.cM:=lr.kO
theorem jz:Lib.fs N.bG=some K.bG:=lr.jz
end K
end Go.Ev
namespace Go.Ev.K
open Go.Ev
end Go.Ev.K
namespace Go.Ev
class gA [Lib]:Prop where
namespace K
variable [Lib] [gA]
end K
end Go.Ev
namespace Go.Ev
open Go
variable [Lib] [cm] [bS] [iv] [ir] [lr] [gE] [gF] [jV] [iu] [gA]
end Go.Ev
namespace Go.Ev
open Go
theorem Ef{d:D}{n:Int}(h:EW d=some n):d= .t (.int .i64 n):=by
 unfold EW at h
 split at h
 · cases h;rfl
 · cases h
theorem JQ:∀ {es:List D} {l:List Int},bL EW es=some l→es=l.map fun x=> .t (.int .i64 x)
 | [],l,h=>by simp[bL]at h;subst h;rfl
 | e::r,l,h=>by
   simp only[bL,Option.bind_eq_some_iff,Option.map_eq_some_iff]at h
   obtain⟨x,hx,y,hy,rfl⟩:=h
   rw[Ef hx,JQ hy];rfl
theorem yp(x:Int):∀l,(OK x l).Perm (x::l)
 | []=> .refl _
 | y::r=>by
   unfold OK
   split
   · exact .refl _
   · exact((yp x r).cons y).trans (.swap x y r)
theorem jN:∀l,(iH l).Perm l
 | []=> .refl _
 | x::r=>(yp x _).trans ((jN r).cons x)
theorem JR{x:Int}:∀ {l:List Int},l.Pairwise (· ≤ ·)→(OK x l).Pairwise (· ≤ ·)
 | [],_=>by simp[OK]
 | y::r,h=>by
   unfold OK
   split
   · rename_i hx
     refine List.pairwise_cons.2 ⟨fun z hz=>?_,h⟩
     rcases List.mem_cons.1 hz with rfl | hz
     · exact hx
     · have:=(List.pairwise_cons.1 h).1 z hz;omega
   · rename_i hx
     have h':=List.pairwise_cons.1 h
     refine List.pairwise_cons.2 ⟨fun z hz=>?_,JR h'.2⟩
     have hz:=(yp x r).mem_iff.1 hz
     rcases List.mem_cons.1 hz with rfl | hz
     · omega
     · exact h'.1 z hz
theorem uw:∀l,(iH l).Pairwise (· ≤ ·)
 | []=> .nil
 | x::r=>JR (uw r)
theorem lg(l:List Int):(iH l).length=l.length:=(jN l).length_eq
theorem FR(l:List Int):(l.mergeSort fun x y=>decide (x≤y))=iH l:=by
 refine List.Perm.eq_of_pairwise (le:=(· ≤ ·)) (fun a b _ _ h1 h2=>by omega) ?_ (uw l) ((List.mergeSort_perm _ _).trans (jN l).symm)
 have:=List.pairwise_mergeSort (le:=fun x y:Int=>decide (x≤y)) (fun a b c=>by simp;omega) (fun a b=>by simp;omega) l
 exact this.imp (by simp)
end Go.Ev
namespace Go.Ev
open Go
variable [Lib] [cm] [bS] [iv] [ir] [lr] [gE] [gF] [jV] [iu] [gA]
section
variable (k : Keys) (hl : k.keys.length ≤ 1000000) (hr : k.roads.length ≤ 1000000)
include hl hr
end
end Go.Ev
namespace Go.Ev
open Go
variable [Lib] [cm] [bS] [iv] [ir] [lr] [gE] [gF] [jV] [iu] [gA]
theorem aco{a b:List Int}(ha:a.Pairwise (· ≤ ·))(hb:b.Pairwise (· ≤ ·))(p:a.Perm b):a=b:=
 List.Perm.eq_of_pairwise (le:=(· ≤ ·)) (fun a b _ _ h1 h2=>by omega) ha hb p
section
variable (b u v y : Obj) (ds : ai)
end
end Go.Ev
namespace Go.Ev.K
open Go.Ev
def bI:C:=(.its [u (.bin .lss v10 v9)] [] 0 .skip (.exit 0) (.seq (.blk 1 (.seq (.reg [m v10,a 2 v8 v10,h 2 l0,w 7 (.al [.nil,.nil] []),w 6 (.mv l3),u (.st l1 l2 2 [])] []) (.blk 2 (.ite [f 0 v7,g l0,u (.ln l0),u (.ca N.eI 0 [] [.l 0,.i 1,.i 12]),u (.un .not l0),m l0,y 0 false (.fa v7 1),y 1 false (.ld l0 1 false),y 2 false (.ln l0),y 3 false (.fa v7 0),y 4 false (.ld l0 1 false),y 5 false (.ln l0),y 6 false (.bin .neq l3 l0),u (.pk l7 (.b true) l0),m l0,y 0 false (.fa v7 0),y 1 false (.ld l0 1 false),y 2 false (.ca N.eQ 0 [] [.l 0]),y 3 false (.un .not l0),u (.pk l4 (.b true) l0),m l0] [] 0 (.seq (.reg [w 4 (.mv (.b false))] []) .ret) (.ite [f 0 v7,g l0,u (.ca N.bg 0 [] [.l 0]),u (.ca N.bP 0 [] [.l 0]),m v5,u (.ca N.aX 0 [] [.l 1,.l 0]),u (.un .not l0),m l0] [] 0 (.seq (.reg [w 4 (.mv (.b false))] []) .ret) (.ite [m v6,u (.bin .gtr l0 (.i 0)),m l0,y 0 true (.fa v3 0),y 1 true (.ld l0 1 false),y 2 true (.mv v6),y 3 true (.bin .sub l0 (.i 1)),y 4 true (.ia l2 l0 2),y 5 true (.fa l0 0),y 6 true (.ld l0 1 false),y 7 true (.fa v7 0),y 8 true (.ld l0 1 false),y 9 true (.ca N.aP 0 [] [.l 2,.l 0]),y 10 true (.bin .geq l0 (.i 0)),u (.pk l11 l0 (.b false)),m l0] [] 0 (.seq (.reg [w 4 (.mv (.b false))] []) .ret) (.ite [f 1 v7,g l0,u (.mf N.cU [.v 2]),u (.ca N.aa 0 [] [.l 1,.l 0]),m l0] [] 0 (.seq (.reg [w 4 (.mv (.b false))] []) .ret) .skip))))))) (.reg [u (.bin .add v10 (.i 1)),w 10 (.mv l0)] [])))
def n5:C:= .loop true [0,1,4,6,7] K.bI
def eC:Fn:={ nargs:=2,vars:=[0,1,2,3,4,5,6,7,26,27,28],body:=(.seq (.reg [w 2 (.bx v0 2),w 3 (.bx v1 1),w 4 (.mv (.b false))] []) (.seq (.ite [h 2 v2,u (.ca N.dL 0 [] [.l 0]),u (.un .not l0),m l0,y 0 false (.fa v3 0),y 1 false (.ld l0 1 false),y 2 false (.ln l0),y 3 false (.ca N.eI 0 [] [.l 0,.i 1,.i 24]),y 4 false (.un .not l0),u (.pk l5 (.b true) l0)] [] 0 (.seq (.reg [w 4 (.mv (.b false))] []) .ret) .skip) (.seq (.reg [f 0 v3,g l0,a 2 l0 (.i 0),f 0 l0,g l0,u (.ca N.bg 0 [] [.l 0]),u (.ca N.bP 0 [] [.l 0]),w 5 (.mv l0)] []) (.seq (.seq (.reg [f 0 v3,w 8 (.ld l0 1 false),w 9 (.ln l0),w 10 (.mv (.i 0))] []) (.blk 0 K.n5)) (.seq (.reg [w 4 (.mv (.b true))] []) .ret))))),res:=[(4,none)]}
def bP:Fn:={ nargs:=1,vars:=[2],body:= .fail,res:=[(0,none)],prim:=[2,N.aM]}
def bg:Fn:={ nargs:=1,vars:=[0,1,2],body:=(.seq (.reg [w 1 (.bx v0 1),w 2 (.mv (.c (.und)))] []) (.seq (.reg [u (.mf N.aM [.v 1]),w 2 (.mv l0)] []) .ret)),res:=[(2,none)]}
def eQ:Fn:={ nargs:=1,vars:=[0,2,3],body:=(.seq (.reg [w 1 (.mv (.b false))] []) (.seq (.reg [m v0,u (.ca N.bg 0 [] [.l 0]),u (.ca N.bP 0 [] [.l 0]),w 2 (.mv l0)] []) (.seq (.reg [m v2,u (.ca N.dW 0 [] [.l 0,.i 1,.i 65535]),w 1 (.mv l0)] []) .ret))),res:=[(1,none)]}
def cC:C:=(.its [u (.bin .lss v9 v8)] [] 0 .skip (.exit 0) (.seq (.blk 1 (.seq (.reg [m v9,a 1 v7 v9,g l0,w 3 (.mv l2),w 4 (.mv l1)] []) (.seq (.ite [m v3,m v1,u (.ln l0),u (.bin .geq l2 l0)] [] 0 (.seq (.reg [w 2 (.mv (.i 1))] []) .ret) .skip) (.seq (.reg [m v1,m v3,a 1 l1 l0,g l0,w 5 (.mv l0)] []) (.seq (.reg [m v4,m v5,u (.ca N.bV 0 [] [.l 1,.l 0]),w 6 (.mv l0)] []) (.ite [m v6,u (.bin .neq l0 (.i 0))] [] 0 (.seq (.reg [m v6,w 2 (.mv l0)] []) .ret) .skip)))))) (.reg [u (.bin .add v9 (.i 1)),w 9 (.mv l0)] [])))
def je:C:= .loop true [2,3,4,5,6] K.cC
def aP:Fn:={ nargs:=2,vars:=[0,1,4,5,6,7,8,9,10,11],body:=(.seq (.reg [w 2 (.mv (.i 0))] []) (.seq (.seq (.reg [w 7 (.mv v0),w 8 (.ln l0),w 9 (.mv (.i 0))] []) (.blk 0 K.je)) (.seq (.ite [m v0,u (.ln l0),m v1,u (.ln l0),u (.bin .lss l2 l0)] [] 0 (.seq (.reg [w 2 (.mv (.i (-1)))] []) .ret) .skip) (.seq (.reg [w 2 (.mv (.i 0))] []) .ret)))),res:=[(2,none)]}
def aa:Fn:={ nargs:=2,vars:=[0,1,4],body:=(.seq (.reg [w 2 (.mv (.b false))] []) (.seq (.reg [m v0,m v1,u (.ca N.au 0 [] [.l 1,.l 0]),u (.bin .geq l0 (.i 0)),w 2 (.mv l0)] []) .ret)),res:=[(2,none)]}
def cU:Fn:={ nargs:=2,vars:=[0,1,2,3],body:=(.seq (.reg [w 2 (.bx v0 2),w 3 (.mv (.b false))] []) (.seq (.reg [h 2 v1,h 2 v2,u (.ca N.dX 0 [] [.l 1,.l 0]),u (.un .not l0),w 3 (.mv l0)] []) .ret)),res:=[(3,none)]}
def mQ:C:=(.its [u (.bin .lss v5 v4)] [] 0 .skip (.exit 0) (.seq (.blk 1 (.seq (.reg [a 1 v3 v5,g l0,w 2 (.mv l0)] []) (.ite [m v0,m v2,u (.cw l1 0 [] [.l 0]),u (.un .not l0)] [] 0 .ret .skip))) (.reg [u (.bin .add v5 (.i 1)),w 5 (.mv l0)] [])))
def m5:C:= .loop true [1,2] K.mQ
def aM:Fn:={ nargs:=2,vars:=[0,1,4,5,6,7],body:=(.seq (.reg [w 3 (.ld v1 1 false),w 4 (.ln l0),w 5 (.mv (.i 0))] []) (.blk 0 K.m5)),res:=[]}
def bV:Fn:={ nargs:=2,vars:=[0,1,4,5,6],body:=(.seq (.reg [w 2 (.mv (.i 0))] []) (.seq (.reg [m v0,u (.ca N.cmp_isNaN_int 0 [] [.l 0]),w 3 (.mv l0)] []) (.seq (.reg [m v1,u (.ca N.cmp_isNaN_int 0 [] [.l 0]),w 4 (.mv l0)] []) (.seq (.ite [m v3] [] 0 (.seq (.ite [m v4] [] 0 (.seq (.reg [w 2 (.mv (.i 0))] []) .ret) .skip) (.seq (.reg [w 2 (.mv (.i (-1)))] []) .ret)) .skip) (.seq (.ite [m v4] [] 0 (.seq (.reg [w 2 (.mv (.i 1))] []) .ret) .skip) (.seq (.ite [m v0,m v1,u (.bin .lss l1 l0)] [] 0 (.seq (.reg [w 2 (.mv (.i (-1)))] []) .ret) .skip) (.seq (.ite [m v0,m v1,u (.bin .gtr l1 l0)] [] 0 (.seq (.reg [w 2 (.mv (.i 1))] []) .ret) .skip) (.seq (.reg [w 2 (.mv (.i 0))] []) .ret)))))))),res:=[(2,none)]}
def aY:C:=(.its [u (.bin .lss v5 v4)] [] 0 .skip (.exit 0) (.seq (.blk 1 (.seq (.reg [m v5,w 3 (.mv l0)] []) (.ite [m v1,m v0,m v3,a 2 l1 l0,h 2 l0,u (.cw l4 0 [] [.l 0])] [] 0 (.seq (.reg [m v3,w 2 (.mv l0)] []) .ret) .skip))) (.reg [u (.bin .add v5 (.i 1)),w 5 (.mv l0)] [])))
def cg:C:= .loop true [2,3] K.aY
def au:Fn:={ nargs:=2,vars:=[0,1,4,5,7,8],body:=(.seq (.reg [w 2 (.mv (.i 0))] []) (.seq (.seq (.reg [m v0,w 4 (.ln l0),w 5 (.mv (.i 0))] []) (.blk 0 K.cg)) (.seq (.reg [w 2 (.mv (.i (-1)))] []) .ret))),res:=[(2,none)]}
def cmp_isNaN_int:Fn:={ nargs:=1,vars:=[0,2],body:=(.seq (.reg [w 1 (.mv (.b false))] []) (.seq (.reg [m v0,m v0,u (.bin .neq l1 l0),w 1 (.mv l0)] []) .ret)),res:=[(1,none)]}
end Go.Ev.K
namespace Go.Ev
class fw [Lib]:Prop where
 pX:Lib.fs N.eC=some K.eC
 jA:Lib.fs N.bP=some K.bP
 gB:Lib.fs N.bg=some K.bg
 n9:Lib.fs N.eQ=some K.eQ
 gj:Lib.fs N.aP=some K.aP
 bB:Lib.fs N.aa=some K.aa
 mR:Lib.fs N.cU=some K.cU
 jf:Lib.fs N.aM=some K.aM
 kP:Lib.fs N.bV=some K.bV
 bC:Lib.fs N.au=some K.au
 mS:Lib.fs N.cmp_isNaN_int=some K.cmp_isNaN_int
namespace K
variable [Lib] [fw]
theorem pX:Lib.fs N.eC=some K.eC:=fw.pX
theorem jA:Lib.fs N.bP=some K.bP:=fw.jA
theorem gB:Lib.fs N.bg=some K.bg:=fw.gB
theorem n9:Lib.fs N.eQ=some K.eQ:=fw.n9
theorem gj:Lib.fs N.aP=some K.aP:=fw.gj
theorem bB:Lib.fs N.aa=some K.aa:=fw.bB
theorem mR:Lib.fs N.cU=some K.cU:=fw.mR
theorem jf:Lib.fs N.aM=some K.aM:=fw.jf
theorem kP:Lib.fs N.bV=some K.bV:=fw.kP
theorem bC:Lib.fs N.au=some K.au:=fw.bC
theorem mS:Lib.fs N.cmp_isNaN_int=some K.cmp_isNaN_int:=fw.mS
end K
end Go.Ev
namespace Go.Ev
open Go
variable [Lib] [cm] [bS] [iv] [ir] [lr] [gE] [gF] [jV] [iu] [gA] [fw]
theorem yq(l:List Int):aO 0 N.bg [.t (tL l)] []=some (.fn N.aM [.bp 0 0],[.box [.t (tL l)]]):=by
 refine ay K.gB rfl ?_
 simp (disch:=omega) only[go_sem,K.bg,↓reduceIte,Nat.reduceAdd,Nat.reduceSub]
theorem Hb(l:List Int):xl (tL l)=some l:=by
 unfold xl
 simp only
 induction l with
 | nil=>rfl
 | cons x l ih=>
   simp only[List.map_cons,bL]at ih ⊢
   rw[ih];rfl
theorem yr(l:List Int)(hl:l.length≤1000000):aO 0 N.bP [.fn N.aM [.bp 0 0]] [.box [.t (tL l)]]=some (.t (tL (iH l)),[.box [.t (tL l)]]):=by
 refine Ca K.jA (by decide) ?_
 show uM [2,N.aM] _ _=_
 simp only[uM,if_true,List.getElem?_cons_zero,rP,Option.bind_some,Hb]
 rw[if_pos (by unfold lim;omega)]
theorem FT(a:Int):aO 0 N.cmp_isNaN_int [I a] []=some (B false,[]):=by
 refine ay K.mS rfl ?_
 simp (disch:=omega) only[go_sem,K.cmp_isNaN_int,↓reduceIte,decide_true,Bool.not_true,Nat.reduceAdd,Nat.reduceSub]
def JS(a b:Int):Int:=if a<b then -1 else if b<a then 1 else 0
theorem Oz(a b:Int):aO 0 N.bV [I a,I b] []=some (I (JS a b),[]):=by
 refine ay K.kP rfl ?_
 have h1:=FT a
 have h2:=FT b
 unfold JS
 by_cases c1:a<b
 · simp (disch:=omega) only[go_sem,K.bV,↓reduceIte,h1,h2,c1,Bool.false_eq_true,Nat.reduceAdd,Nat.reduceSub]
 · by_cases c2:b<a
   · simp (disch:=omega) only[go_sem,K.bV,↓reduceIte,h1,h2,c1,c2,Bool.false_eq_true,Nat.reduceAdd,Nat.reduceSub]
   · simp (disch:=omega) only[go_sem,K.bV,↓reduceIte,h1,h2,c1,c2,Bool.false_eq_true,Nat.reduceAdd,Nat.reduceSub]
def FU(a b:List Int)(j:Nat):Bool:=decide (b.length≤j)||decide (nth a j≠nth b j)
def Mz(a b:List Int):Int:=match (List.range a.length).find? (FU a b)with
 | some j=>if b.length≤j then 1 else JS (nth a j) (nth b j)
 | none=>if a.length<b.length then -1 else 0
theorem zP(a b:List Int)(ha:a.length≤1000000)(hb:b.length≤1000000):aO 0 N.aP [.t (tL a),.t (tL b)] []=some (I (Mz a b),[]):=by
 refine ay K.gj rfl ?_
 have loop:∀z2 z3 z4 z5 z6:D,exS aO K.je ⟨[.t (tL a),.t (tL b),z2,z3,z4,z5,z6,.t (tL a),I a.length,I 0],[]⟩=
  some (match (List.range a.length).find? (FU a b)with
   | some j=>(.ret,⟨[.t (tL a),.t (tL b),I (if b.length≤j then 1 else JS (nth a j) (nth b j)),I j,I (nth a j),if b.length≤j then .und else I (nth b j),if b.length≤j then .und else I (JS (nth a j) (nth b j)),.t (tL a),I a.length,I j],[]⟩)
   | none=>(.exit 0,⟨[.t (tL a),.t (tL b),.und,.und,.und,.und,.und,.t (tL a),I a.length,I a.length],[]⟩)):=by
  intro z2 z3 z4 z5 z6
  refine cu (fun j=>⟨[.t (tL a),.t (tL b),.und,.und,.und,.und,.und,.t (tL a),I a.length,I j],[]⟩) a.length (FU a b) _ _ rfl ?_ ?_ ?_ (by simp)
  · intro j hj hp
    simp only[FU,Bool.or_eq_false_iff,decide_eq_false_iff_not,Decidable.not_not]at hp
    obtain⟨h1,h2⟩:=hp
    have c:=Oz (nth a j) (nth b j)
    rw[h2]at c
    have e:JS (nth b j) (nth b j)=0:=by unfold JS;rw[if_neg (by omega),if_neg (by omega)]
    rw[e]at c
    simp (disch:=omega) only[go_sem,K.cC,↓reduceIte,h2,c,Nat.reduceAdd,Nat.reduceSub]
  · intro j hj hp
    refine⟨?_,by simp⟩
    by_cases h1:b.length≤j
    · rw[if_pos h1,if_pos h1,if_pos h1]
      simp (disch:=omega) only[go_sem,K.cC,↓reduceIte,Nat.reduceAdd,Nat.reduceSub]
    · rw[if_neg h1,if_neg h1,if_neg h1]
      have h2:nth a j≠nth b j:=by simpa [FU,h1]using hp
      have c:=Oz (nth a j) (nth b j)
      have e:JS (nth a j) (nth b j)≠0:=by
       unfold JS;split
       · omega
       · split<;>omega
      generalize JS (nth a j) (nth b j)=v at*
      simp (disch:=omega) only[go_sem,K.cC,↓reduceIte,c,e,Nat.reduceAdd,Nat.reduceSub]
  · simp (disch:=omega) only[go_sem,K.cC,↓reduceIte,Nat.reduceAdd,Nat.reduceSub]
 unfold Mz
 cases hf:(List.range a.length).find? (FU a b)with
 | some j=>
   simp only[hf]at loop
   simp (disch:=omega) only[go_sem,K.aP,↓reduceIte,loop,Nat.reduceAdd,Nat.reduceSub]
 | none=>
   simp only[hf]at loop
   by_cases h:a.length<b.length
   · simp (disch:=omega) only[go_sem,K.aP,↓reduceIte,loop,h,Nat.reduceAdd,Nat.reduceSub]
   · simp (disch:=omega) only[go_sem,K.aP,↓reduceIte,loop,h,Nat.reduceAdd,Nat.reduceSub]
end Go.Ev
namespace Go.Ev
open Go
variable [Lib] [cm] [bS]
theorem pY:∀ {l l':List Int},l.Nodup→(∀x∈l,x∈l')→l.length≤l'.length
 | [],_,_,_=>by simp
 | a::l,l',hn,hs=>by
   obtain⟨h1,h2⟩:=List.nodup_cons.1 hn
   have ha:a∈l':=hs a List.mem_cons_self
   have:=pY (l:=l) (l':=l'.erase a) h2 fun x hx=>by
    have hne:x≠a:=fun e=>h1 (e▸hx)
    exact(List.mem_erase_of_ne hne).2 (hs x (List.mem_cons_of_mem _ hx))
   have h3:=List.length_erase_of_mem ha
   have h4:0<l'.length:=List.length_pos_of_mem ha
   simp only[List.length_cons]
   omega
theorem kQ{l:List Int}{x:Int}:0≤bO l x↔x∈l:=by
 unfold bO
 cases hf:(List.range l.length).find? (fun j=>decide (nth l j=x))with
 | some j=>
   obtain⟨h1,h2⟩:=x8 hf
   have:=ae h1
   rw[of_decide_eq_true h2]at this
   simp[this]
 | none=>
   have:=List.find?_eq_none.1 hf
   simp only[Int.reduceNeg]
   constructor
   · intro h;simp at h
   · intro h
     obtain⟨j,hj⟩:=List.mem_iff_getElem?.1 h
     have hl:=(List.getElem?_eq_some_iff.1 hj).1
     have:=this j (List.mem_range.2 hl)
     rw[bA hj]at this
     simp at this
theorem iM{l:List Int}(h:ew l=true):l.Nodup:=by
 simp only[ew,List.all_eq_true,List.mem_range,mN,decide_eq_true_eq]at h
 refine List.pairwise_iff_getElem.2 fun i j hi hj hij e=>?_
 obtain⟨-, -,h3⟩:=h j hj
 have h4:¬nth l j∈l.take j:=fun hm=>by have:=kQ.2 hm;omega
 apply h4
 apply List.mem_iff_getElem?.2
 refine⟨i,?_⟩
 rw[List.getElem?_take_of_lt hij,List.getElem?_eq_getElem hi,e,←List.getElem?_eq_getElem hj,jv hj]
theorem fI{m:aT}{b:Bel}(h:qi m b=true):1≤b.worlds.length∧b.worlds.length≤24∧1≤(nth b.worlds 0).tags.length∧(nth b.worlds 0).tags.length≤12∧
 ∀i,i<b.worlds.length→oD m b.worlds (nth b.worlds 0).tags i=true:=by
 simp only[qi,Bool.and_eq_true,decide_eq_true_eq,List.all_eq_true,List.mem_range]at h
 exact⟨h.1.1.1,h.1.1.2,h.1.2.1,h.1.2.2,h.2⟩
theorem gC{m:aT}{ws:List World}{first:List Int}{i:Nat}(h:oD m ws first i=true):(nth ws i).tags.length=first.length∧(nth ws i).whr.length=first.length∧ew (nth ws i).tags=true∧
 ∀k,k<(nth ws i).tags.length→nth (nth ws i).tags k∈first∧cH m (nth (nth ws i).whr k)=true:=by
 simp only[oD,Bool.and_eq_true,decide_eq_true_eq,List.all_eq_true,List.mem_range,HY]at h
 exact⟨h.1.1.1.1,h.1.1.1.2,h.1.1.2,fun k hk=>⟨kQ.1 (h.2 k hk).1,(h.2 k hk).2⟩⟩
theorem yu{m:aT}{b:Bel}(h:qi m b=true){tag:Int}(ht:0≤bO (nth b.worlds 0).tags tag){i:Nat}(hi:i<b.worlds.length):
 0≤bO (nth b.worlds i).tags tag:=by
 obtain⟨h1,h2,h3,h4,h5⟩:=fI h
 obtain⟨w1,w2,w3,w4⟩:=gC (h5 i hi)
 apply kQ.2
 apply Classical.byContradiction
 intro hn
 have:=pY (l:=tag::(nth b.worlds i).tags) (l':=(nth b.worlds 0).tags) (List.nodup_cons.2 ⟨hn,iM w3⟩) (by
  intro x hx
  rcases List.mem_cons.1 hx with e | hx
  · rw[e];exact kQ.1 ht
  · obtain⟨j,hj⟩:=List.mem_iff_getElem?.1 hx
    have:=(w4 j (List.getElem?_eq_some_iff.1 hj).1).1
    rwa [bA hj]at this)
 simp only[List.length_cons]at this
 omega
def mT(m:aT)(b:Bel)(tag:Int):Int:=if qi m b=false then 6 else if bO (nth b.worlds 0).tags tag<0 then 41 else 0
theorem FV{m:aT}(h:m.ok)(b:Bel)(hs:b.sz)(tag:Int):aO 0 N.dH [.t m.e,.t b.e,I tag] []=some (I (mT m b tag),[]):=by
 refine ay K.ph rfl ?_
 have v:=JB h b hs
 unfold mT
 cases hv:qi m b with
 | false=>
   rw[hv]at v
   obtain⟨ws⟩:=b
   simp (disch:=omega) only[go_sem,K.dH,↓reduceIte,v]
 | true=>
   rw[hv]at v
   obtain⟨h1,h2,h3,h4,h5⟩:=fI hv
   have br:=mM (nth b.worlds 0).tags tag (by omega)
   obtain⟨ws⟩:=b
   simp only at h1 br ⊢
   by_cases c:bO (nth ws 0).tags tag<0
   · simp (disch:=omega) only[go_sem,K.dH,↓reduceIte,v,br,c,Bool.true_eq_false]
   · simp (disch:=omega) only[go_sem,K.dH,↓reduceIte,v,br,c,Bool.true_eq_false]
def MA(a b:Wh)(t:Int):Bool:=(List.range (min a.frm.length b.frm.length)).any fun p=>decide (nth a.frm p≤t∧nth b.frm p≤t)
theorem RL(a b:Wh)(t:Int)(ha:a.frm.length≤1000000):aO 0 N.gN [.t a.e,.t b.e,I t] []=some (B (MA a b t),[]):=by
 refine ay K.qD rfl ?_
 obtain⟨t1,l1⟩:=a
 obtain⟨t2,l2⟩:=b
 unfold MA
 simp only at ha ⊢
 have loop:∀x y z:D,exS aO K.tW ⟨[x,y,I t,.bp 0 0,.bp 1 0,z,I 0],[.box [I t1,.t (tL l1)],.box [I t2,.t (tL l2)]]⟩=
  some (match (List.range (min l1.length l2.length)).find? (fun p=>decide (nth l1 p≤t∧nth l2 p≤t))with
   | some j=>(.ret,⟨[.und,.und,I t,.bp 0 0,.bp 1 0,B true,I j],[.box [I t1,.t (tL l1)],.box [I t2,.t (tL l2)]]⟩)
   | none=>(.exit 0,⟨[.und,.und,I t,.bp 0 0,.bp 1 0,.und,I (min l1.length l2.length:Nat)],[.box [I t1,.t (tL l1)],.box [I t2,.t (tL l2)]]⟩)):=by
  intro x y z
  refine cu (fun j=>⟨[.und,.und,I t,.bp 0 0,.bp 1 0,.und,I j],[.box [I t1,.t (tL l1)],.box [I t2,.t (tL l2)]]⟩) (min l1.length l2.length) (fun p=>decide (nth l1 p≤t∧nth l2 p≤t)) _ _ rfl ?_ ?_ ?_ (by simp)
  · intro j hj hp
    have hp:¬(nth l1 j≤t∧nth l2 j≤t):=of_decide_eq_false hp
    by_cases c:nth l1 j≤t
    · simp (disch:=omega) only[go_sem,K.gQ,↓reduceIte,c]
    · simp (disch:=omega) only[go_sem,K.gQ,↓reduceIte,c]
  · intro j hj hp
    have hp:nth l1 j≤t∧nth l2 j≤t:=of_decide_eq_true hp
    refine⟨?_,by simp⟩
    simp (disch:=omega) only[go_sem,K.gQ,↓reduceIte]
  · by_cases h1:l1.length≤l2.length
    · have e:min l1.length l2.length=l1.length:=by omega
      rw[e]
      simp (disch:=omega) only[go_sem,K.gQ,↓reduceIte]
    · have e:min l1.length l2.length=l2.length:=by omega
      rw[e]
      simp (disch:=omega) only[go_sem,K.gQ,↓reduceIte]
 rw[← Fx]
 simp (disch:=omega) only[go_sem,K.gN,↓reduceIte,loop]
 cases hf:(List.range (min l1.length l2.length)).find? (fun p=>decide (nth l1 p≤t∧nth l2 p≤t))with
 | some j=>simp (disch:=omega) only[go_sem,↓reduceIte,Option.isSome]
 | none=>simp (disch:=omega) only[go_sem,↓reduceIte,Option.isSome]
def gk(m:aT)(starts:List Int)(t:Int)(j:Nat):List Wh:=(List.range j).map fun i=>(fG m (nth starts i) t).1
theorem Cz(m:aT)(starts:List Int)(t:Int)(j:Nat):gk m starts t (j+1)=gk m starts t j++[(fG m (nth starts j) t).1]:=by
 unfold gk;rw[List.range_succ,List.map_append];rfl
@[simp] theorem pZ (m : aT) (starts : List Int) (t : Int) (j : Nat) : (gk m starts t j).length = j := by simp [gk]
def rF(m:aT)(tags starts:List Int)(t:Int):Bel×Int:=
 if tags.length=starts.length∧1≤tags.length∧tags.length≤12 then
  if ew tags=true then match (List.range tags.length).find? (fun i=> !decide ((fG m (nth starts i) t).2=0))with
   | some i=>(⟨[]⟩,(fG m (nth starts i) t).2)
   | none=>(⟨[⟨tags,gk m starts t tags.length⟩]⟩,0)
  else(⟨[]⟩,41)
 else(⟨[]⟩,6)
abbrev stH(m:aT)(tags:List Int)(r:D)(ws:List Wh):ai:=[.box (af m),.box [r],.arr 1 false 0 ((tags.map (T.int .i64)).map .t),.box [.ref 2 0 tags.length,.ref 5 0 ws.length],.arr 2 false 0 [],.arr 2 false 0 ((ws.map Wh.e).map .t)]
theorem Eg{m:aT}(h:m.ok)(tags starts:List Int)(hl:tags.length≤1000000)(t:Int):
 aO 0 N.cX [.t m.e,.t (tL tags),.t (tL starts),I t] []=some (.tup [.t (rF m tags starts t).1.e,I (rF m tags starts t).2],[]):=by
 refine ay K.o8 rfl ?_
 have ck:=ue h
 have pr:=Cq tags hl
 unfold rF
 by_cases c1:tags.length=starts.length
 · by_cases c2:tags.length<1
   · simp (disch:=omega) only[go_sem,K.cX,↓reduceIte,ck,show ¬(tags.length=starts.length∧1≤tags.length∧tags.length≤12)by omega]
     rfl
   · by_cases c3:12<tags.length
     · simp (disch:=omega) only[go_sem,K.cX,↓reduceIte,ck,show ¬(tags.length=starts.length∧1≤tags.length∧tags.length≤12)by omega]
       rfl
     · have c:tags.length=starts.length∧1≤tags.length∧tags.length≤12:=by omega
       rw[if_pos c]
       clear c
       cases hp:ew tags with
       | false=>
         rw[hp]at pr
         simp (disch:=omega) only[go_sem,K.cX,↓reduceIte,ck,pr,Bool.false_eq_true]
         rfl
       | true=>
         rw[hp]at pr
         have loop:∀a b c d:D,exS aO K.rV ⟨[a,.t (tL tags),.t (tL starts),I t,.bp 0 0,.bp 1 0,b,.bp 3 0,I 0,c,d],stH m tags .nil []⟩=
          some (match (List.range tags.length).find? (fun i=> !decide ((fG m (nth starts i) t).2=0))with
           | some i=>(.ret,⟨[.und,.t (tL tags),.t (tL starts),I t,.bp 0 0,.bp 1 0,I (fG m (nth starts i) t).2,.bp 3 0,I i,.bp 6 0,I (fG m (nth starts i) t).2],stH m tags .nil (gk m starts t i)++[.box [I (fG m (nth starts i) t).1.time,.t (tL (fG m (nth starts i) t).1.frm)]]⟩)
           | none=>(.exit 0,⟨[.und,.t (tL tags),.t (tL starts),I t,.bp 0 0,.bp 1 0,.und,.bp 3 0,I tags.length,.und,.und],stH m tags .nil (gk m starts t tags.length)⟩)):=by
          intro a b c d
          refine cu (fun j=>⟨[.und,.t (tL tags),.t (tL starts),I t,.bp 0 0,.bp 1 0,.und,.bp 3 0,I j,.und,.und],stH m tags .nil (gk m starts t j)⟩) tags.length _ _ _ rfl ?_ ?_ ?_ (by simp)
          · intro j hj hp
            have st:=FB h (nth starts j) t
            have ln:=pZ m starts t j
            have hp:(fG m (nth starts j) t).2=0:=by simpa using hp
            rw[Cz]
            generalize gk m starts t j=L at*
            generalize fG m (nth starts j) t=r at*
            obtain⟨⟨time,frm⟩,e⟩:=r
            simp only at st hp ⊢
            subst hp
            simp (disch:=omega) only[go_sem,K.j3,↓reduceIte,stH,st,Nat.reduceAdd,Nat.reduceSub]
            done
          · intro j hj hp
            have st:=FB h (nth starts j) t
            have ln:=pZ m starts t j
            have hp:(fG m (nth starts j) t).2≠0:=by simpa using hp
            generalize gk m starts t j=L at*
            generalize fG m (nth starts j) t=r at*
            obtain⟨⟨time,frm⟩,e⟩:=r
            simp only at st hp ⊢
            refine⟨?_,by simp⟩
            simp (disch:=omega) only[go_sem,K.j3,↓reduceIte,stH,st,Nat.reduceAdd,Nat.reduceSub]
            done
          · have ln:=pZ m starts t tags.length
            generalize gk m starts t tags.length=L at*
            simp (disch:=omega) only[go_sem,K.j3,↓reduceIte]
         simp only[stH,List.map_nil,List.length_nil]at loop
         simp (disch:=omega) only[go_sem,K.cX,↓reduceIte,ck,pr,loop]
         cases hf:(List.range tags.length).find? (fun i=> !decide ((fG m (nth starts i) t).2=0))with
         | some i=>
           simp (disch:=omega) only[go_sem,↓reduceIte]
           rfl
         | none=>
           have ln:=pZ m starts t tags.length
           generalize gk m starts t tags.length=L at*
           simp (disch:=omega) only[go_sem,↓reduceIte]
           rfl
 · simp (disch:=omega) only[go_sem,K.cX,↓reduceIte,ck,show ¬(tags.length=starts.length∧1≤tags.length∧tags.length≤12)by omega]
   rfl
@[go_sem] theorem ZI : ([] : List D).all kA = true := (rfl)
@[go_sem] theorem Xj (d : D) (r : List D) : (d :: r).all kA = (kA d && r.all kA) := (rfl)
@[go_sem] theorem RM (cs : List T) : kA (.t (.agg cs)) = false := (rfl)
@[go_sem] theorem Uh (cs : List T) : kA (.t (.sl cs)) = false := (rfl)
@[go_sem] theorem RN (k : IntKind) (n : Int) : kA (.t (.int k n)) = true := (rfl)
@[go_sem] theorem OA (b : Bool) : kA (.t (.bool b)) = true := (rfl)
@[go_sem] theorem adE (l : List Wh) (k : Nat) (a : Int) (b : List Int) : (List.map D.t (List.map Wh.e l)).set k (D.t (T.agg [tI a, tL b])) = List.map D.t (List.map Wh.e (l.set k ⟨a, b⟩)) := by
 rw[List.map_set,List.map_set]
def zQ(m:aT)(tag:Int)(l:List Int)(a b:Int)(x:World):Wh×Int:=yW m (nth x.whr (bO x.tags tag).toNat) l a b
def Eh(tag:Int)(x:World)(w:Wh):World:=⟨x.tags,x.whr.set (bO x.tags tag).toNat w⟩
def CA(tag:Int)(r:Wh×Int)(x:World)(out:List World):List World:=
 if r.2=43 then out else out++[if r.2=0 then Eh tag x r.1 else x]
def mU(m:aT)(tag:Int)(l:List Int)(a b:Int)(ws:List World):Nat→List World
 | 0=>[]
 | j+1=>CA tag (zQ m tag l a b (nth ws j)) (nth ws j) (mU m tag l a b ws j)
theorem JT(tag:Int)(r:Wh×Int)(x:World)(out:List World):(CA tag r x out).length≤out.length+1:=by
 unfold CA;split<;>simp
theorem ux(m:aT)(tag:Int)(l:List Int)(a b:Int)(ws:List World):∀j,(mU m tag l a b ws j).length≤j
 | 0=>by simp[mU]
 | j+1=>by
   have:=ux m tag l a b ws j
   have:=JT tag (zQ m tag l a b (nth ws j)) (nth ws j) (mU m tag l a b ws j)
   simp only[mU];omega
abbrev vn(m:aT)(ws out:List World):ai:=[.box (af m),.box [.t (.sl (ws.map World.e))],.box [.nil],.box [.ref 4 0 out.length],.arr 2 false 0 ((out.map World.e).map .t)]
theorem CB{m:aT}(h:m.ok)(ws:List World)(hw:ws.length≤1000000)(tag:Int)(l:List Int)(hp:l.length≤1000000)(a b:Int)(i:Nat)(hi:i<ws.length)(hs:(nth ws i).sz)
 (hb:0≤bO (nth ws i).tags tag) (hb2:bO (nth ws i).tags tag<(nth ws i).whr.length) (out:List World) (ho:out.length≤1000000):
 ((zQ m tag l a b (nth ws i)).2≠6∧(zQ m tag l a b (nth ws i)).2≠8→eO true [0,1,9,10,13,14,15,16,17,18] 5 (exS aO K.dQ ⟨[.und,.und,I tag,.t (tL l),I a,I b,.bp 0 0,.bp 1 0,.bp 2 0,.und,.und,.bp 3 0,I i,.und,.und,.und,.und,.und,.und],vn m ws out⟩)=
   some ⟨[.und,.und,I tag,.t (tL l),I a,I b,.bp 0 0,.bp 1 0,.bp 2 0,.und,.und,.bp 3 0,I (i+1),.und,.und,.und,.und,.und,.und],vn m ws (CA tag (zQ m tag l a b (nth ws i)) (nth ws i) out)⟩)∧
 ((zQ m tag l a b (nth ws i)).2=6∨(zQ m tag l a b (nth ws i)).2=8→∃vs H,exS aO K.dQ ⟨[.und,.und,I tag,.t (tL l),I a,I b,.bp 0 0,.bp 1 0,.bp 2 0,.und,.und,.bp 3 0,I i,.und,.und,.und,.und,.und,.und],vn m ws out⟩=
   some (.ret,⟨vs,H⟩)∧vs[8]?=some (.bp 2 0)∧vs[9]?=some (I (zQ m tag l a b (nth ws i)).2)∧H[2]?=some (.box [.t (.sl (ws.map World.e))])):=by
 unfold zQ CA Eh
 have c1:=mc (nth ws i) hs
 have br:=mM (nth ws i).tags tag (by have:=hs.1;omega)
 have s3:=hs.2.2 _ (ae (l:=(nth ws i).whr) (j:=(bO (nth ws i).tags tag).toNat) (by omega))
 have se:=WD h (nth (nth ws i).whr (bO (nth ws i).tags tag).toNat) s3 l hp a b
 generalize hx:nth ws i=x at*
 obtain⟨tags,whr⟩:=x
 simp only at c1 br s3 se hb hb2 ⊢
 generalize bO tags tag=k at*
 generalize hy:nth whr k.toNat=y at*
 generalize yW m y l a b=r at*
 obtain⟨⟨time,frm⟩,e⟩:=r
 obtain⟨t0,f0⟩:=y
 obtain⟨s1,s2, -⟩:=hs
 simp only at s1 s2 s3 se ⊢
 constructor
 · rintro ⟨n6,n8⟩
   by_cases e43:e=43
   · subst e43
     simp (disch:=omega) only[go_sem,K.dQ,↓reduceIte,vn,hx,hy,c1,br,se,Nat.reduceAdd,Nat.reduceSub]
   · by_cases e0:e=0
     · subst e0
       simp (disch:=omega) only[go_sem,K.dQ,↓reduceIte,vn,hx,hy,c1,br,se,Nat.reduceAdd,Nat.reduceSub]
     · simp (disch:=omega) only[go_sem,K.dQ,↓reduceIte,vn,hx,hy,c1,br,se,Nat.reduceAdd,Nat.reduceSub]
 · rintro (h68 | h68)<;>subst h68
   · simp (disch:=omega) only[go_sem,K.dQ,↓reduceIte,vn,hx,hy,c1,br,se,Nat.reduceAdd,Nat.reduceSub]
     exact⟨_,_,rfl,rfl,rfl,rfl⟩
   · simp (disch:=omega) only[go_sem,K.dQ,↓reduceIte,vn,hx,hy,c1,br,se,Nat.reduceAdd,Nat.reduceSub]
     exact⟨_,_,rfl,rfl,rfl,rfl⟩
def CC(m:aT)(tag:Int)(l:List Int)(a b:Int)(ws:List World)(j:Nat):Bool:=decide ((zQ m tag l a b (nth ws j)).2=6∨(zQ m tag l a b (nth ws j)).2=8)
def qU(m:aT)(b:Bel)(tag:Int)(l:List Int)(a c:Int):Bel×Int:=
 if mT m b tag≠0 then(b,mT m b tag)else match (List.range b.worlds.length).find? (CC m tag l a c b.worlds)with
  | some i=>(b,(zQ m tag l a c (nth b.worlds i)).2)
  | none=>if(mU m tag l a c b.worlds b.worlds.length).length=0 then(b,43)else(⟨mU m tag l a c b.worlds b.worlds.length⟩,0)
theorem JU{m:aT}(h:m.ok)(b:Bel)(hs:b.sz)(tag:Int)(l:List Int)(hp:l.length≤1000000)(a c:Int):
 aO 0 N.fV [.t m.e,.t b.e,I tag,.t (tL l),I a,I c] []=some (.tup [.t (qU m b tag l a c).1.e,I (qU m b tag l a c).2],[]):=by
 refine ay K.sK rfl ?_
 have cb:=vm b hs
 have bo:=FV h b hs tag
 unfold qU
 by_cases e0:mT m b tag=0
 · have hb:qi m b=true:=by
    unfold mT at e0
    by_cases hb:qi m b=true
    · exact hb
    · rw[if_pos (by simpa using hb)]at e0;omega
   have ht:0≤bO (nth b.worlds 0).tags tag:=by
    unfold mT at e0
    rw[if_neg (by simp[hb])]at e0
    by_cases ht:bO (nth b.worlds 0).tags tag<0
    · rw[if_pos ht]at e0;omega
    · omega
   have bb:∀i,i<b.worlds.length→0≤bO (nth b.worlds i).tags tag∧bO (nth b.worlds i).tags tag<(nth b.worlds i).whr.length:=fun i hi=>by
    obtain⟨-, -, -, -,h5⟩:=fI hb
    obtain⟨w1,w2, -⟩:=gC (h5 i hi)
    have b1:=yu hb ht (i:=i) hi
    have b2:=(vl b1).1
    exact⟨b1,by omega⟩
   rw[e0]at bo
   obtain⟨ws⟩:=b
   obtain⟨s1,s2⟩:=hs
   simp only at s1 s2 bb cb bo ⊢
   have ln:=ux m tag l a c ws
   have loop:=fun x y z u v w p q r=>uq (gc:=true) (dead:=[0,1,9,10,13,14,15,16,17,18]) (c:=K.dQ)
    (vs:=[x,y,I tag,.t (tL l),I a,I c,.bp 0 0,.bp 1 0,.bp 2 0,z,u,.bp 3 0,I 0,v,w,p,q,r,.und]) (H:=vn m ws [])
    (fun j=>⟨[.und,.und,I tag,.t (tL l),I a,I c,.bp 0 0,.bp 1 0,.bp 2 0,.und,.und,.bp 3 0,I j,.und,.und,.und,.und,.und,.und],vn m ws (mU m tag l a c ws j)⟩) ws.length (CC m tag l a c ws)
    (fun j q=>q.1= .ret∧q.2.vs[8]?=some (.bp 2 0)∧q.2.vs[9]?=some (I (zQ m tag l a c (nth ws j)).2)∧q.2.H[2]?=some (.box [.t (.sl (ws.map World.e))]))
    (.exit 0,⟨[.und,.und,I tag,.t (tL l),I a,I c,.bp 0 0,.bp 1 0,.bp 2 0,.und,.und,.bp 3 0,I ws.length,.und,.und,.und,.und,.und,.und],vn m ws (mU m tag l a c ws ws.length)⟩) rfl
    (fun j hj hq=>by
     have:=ln j
     have hq:¬((zQ m tag l a c (nth ws j)).2=6∨(zQ m tag l a c (nth ws j)).2=8):=by simpa [CC]using hq
     obtain⟨b1,b2⟩:=bb j hj
     exact(CB h ws s1 tag l hp a c j hj (s2 _ (ae hj)) b1 b2 (mU m tag l a c ws j) (by omega)).1 (by omega))
    (fun j hj hq=>by
     have:=ln j
     have hq:(zQ m tag l a c (nth ws j)).2=6∨(zQ m tag l a c (nth ws j)).2=8:=by simpa [CC]using hq
     obtain⟨b1,b2⟩:=bb j hj
     obtain⟨vs,H,q1,q2⟩:=(CB h ws s1 tag l hp a c j hj (s2 _ (ae hj)) b1 b2 (mU m tag l a c ws j) (by omega)).2 hq
     exact⟨_,q1,by simp,rfl,q2⟩)
    (by
     have:=ln ws.length
     generalize mU m tag l a c ws ws.length=L at*
     simp (disch:=omega) only[go_sem,K.dQ,↓reduceIte,vn,Nat.reduceAdd,Nat.reduceSub]) (by simp)
   have loop':∀x y z u v w p q r,_∨_:=loop
   clear loop
   rcases loop' (.t m.e) (.t (Bel.e ⟨ws⟩)) (I 0) (I 0) .und .und .und .und .und with⟨e1,e2⟩ | ⟨j,⟨x,vs,H⟩,e1,e2,e3,e4,e5,e6⟩
   · have e2:exS aO K.qy _=_:=e2
     simp only[vn,List.map_nil,List.length_nil]at e2
     have:=ln ws.length
     rw[e1]
     generalize mU m tag l a c ws ws.length=L at*
     by_cases L0:L.length=0
     · simp (disch:=omega) only[go_sem,K.fV,↓reduceIte,cb,bo,e2,L0,Nat.reduceAdd,Nat.reduceSub,ne_eq,not_true_eq_false]
     · simp (disch:=omega) only[go_sem,K.fV,↓reduceIte,cb,bo,e2,L0,Nat.reduceAdd,Nat.reduceSub,ne_eq,not_true_eq_false]
   · have e2:exS aO K.qy _=_:=e2
     simp only[vn,List.map_nil,List.length_nil]at e2
     rw[e1]
     simp only at e3 e4 e5 e6
     subst e3
     simp (disch:=omega) only[go_sem,K.fV,↓reduceIte,cb,bo,e2,Nat.reduceAdd,Nat.reduceSub,ne_eq,not_true_eq_false,e4,e5,e6,List.take_zero]
 · obtain⟨ws⟩:=b
   simp (disch:=omega) only[go_sem,K.fV,↓reduceIte,cb,bo,e0,ne_eq,not_false_eq_true]
def zR(m:aT)(tag:Int)(l:List Int)(a b bl:Int)(x:World):Wh×Int:=zG m (nth x.whr (bO x.tags tag).toNat) l a b bl
def Ei(tag:Int)(r:Wh×Int)(x:World)(out:List World):List World:=out++[if r.2=0 then Eh tag x r.1 else x]
def oI(m:aT)(tag:Int)(l:List Int)(a b bl:Int)(ws:List World):Nat→List World
 | 0=>[]
 | j+1=>Ei tag (zR m tag l a b bl (nth ws j)) (nth ws j) (oI m tag l a b bl ws j)
theorem uy(m:aT)(tag:Int)(l:List Int)(a b bl:Int)(ws:List World):∀j,(oI m tag l a b bl ws j).length=j
 | 0=>rfl
 | j+1=>by
   simp only[oI,Ei,List.length_append,uy m tag l a b bl ws j,List.length_singleton]
theorem CD{m:aT}(h:m.ok)(ws:List World)(hw:ws.length≤1000000)(tag:Int)(l:List Int)(hp:l.length≤1000000)(a b bl:Int)(i:Nat)(hi:i<ws.length)(hs:(nth ws i).sz)
 (hb:0≤bO (nth ws i).tags tag) (hb2:bO (nth ws i).tags tag<(nth ws i).whr.length) (out:List World) (ho:out.length≤1000000):
 ((zR m tag l a b bl (nth ws i)).2≠6∧(zR m tag l a b bl (nth ws i)).2≠8→eO true [0,1,10,11,14,15,16,17] 5 (exS aO K.cT ⟨[.und,.und,I tag,.t (tL l),I a,I b,I bl,.bp 0 0,.bp 1 0,.bp 2 0,.und,.und,.bp 3 0,I i,.und,.und,.und,.und],vn m ws out⟩)=
   some ⟨[.und,.und,I tag,.t (tL l),I a,I b,I bl,.bp 0 0,.bp 1 0,.bp 2 0,.und,.und,.bp 3 0,I (i+1),.und,.und,.und,.und],vn m ws (Ei tag (zR m tag l a b bl (nth ws i)) (nth ws i) out)⟩)∧
 ((zR m tag l a b bl (nth ws i)).2=6∨(zR m tag l a b bl (nth ws i)).2=8→∃vs H,exS aO K.cT ⟨[.und,.und,I tag,.t (tL l),I a,I b,I bl,.bp 0 0,.bp 1 0,.bp 2 0,.und,.und,.bp 3 0,I i,.und,.und,.und,.und],vn m ws out⟩=
   some (.ret,⟨vs,H⟩)∧vs[9]?=some (.bp 2 0)∧vs[10]?=some (I (zR m tag l a b bl (nth ws i)).2)∧H[2]?=some (.box [.t (.sl (ws.map World.e))])):=by
 unfold zR Ei Eh
 have c1:=mc (nth ws i) hs
 have br:=mM (nth ws i).tags tag (by have:=hs.1;omega)
 have s3:=hs.2.2 _ (ae (l:=(nth ws i).whr) (j:=(bO (nth ws i).tags tag).toNat) (by omega))
 have se:=WE h (nth (nth ws i).whr (bO (nth ws i).tags tag).toNat) s3 l hp a b bl
 generalize hx:nth ws i=x at*
 obtain⟨tags,whr⟩:=x
 simp only at c1 br s3 se hb hb2 ⊢
 generalize bO tags tag=k at*
 generalize hy:nth whr k.toNat=y at*
 generalize zG m y l a b bl=r at*
 obtain⟨⟨time,frm⟩,e⟩:=r
 obtain⟨t0,f0⟩:=y
 obtain⟨s1,s2, -⟩:=hs
 simp only at s1 s2 s3 se ⊢
 constructor
 · rintro ⟨n6,n8⟩
   by_cases e0:e=0
   · subst e0
     simp (disch:=omega) only[go_sem,K.cT,↓reduceIte,vn,hx,hy,c1,br,se,Nat.reduceAdd,Nat.reduceSub]
   · simp (disch:=omega) only[go_sem,K.cT,↓reduceIte,vn,hx,hy,c1,br,se,Nat.reduceAdd,Nat.reduceSub]
 · rintro (h68 | h68)<;>subst h68
   · simp (disch:=omega) only[go_sem,K.cT,↓reduceIte,vn,hx,hy,c1,br,se,Nat.reduceAdd,Nat.reduceSub]
     exact⟨_,_,rfl,rfl,rfl,rfl⟩
   · simp (disch:=omega) only[go_sem,K.cT,↓reduceIte,vn,hx,hy,c1,br,se,Nat.reduceAdd,Nat.reduceSub]
     exact⟨_,_,rfl,rfl,rfl,rfl⟩
def CE(m:aT)(tag:Int)(l:List Int)(a b bl:Int)(ws:List World)(j:Nat):Bool:=decide ((zR m tag l a b bl (nth ws j)).2=6∨(zR m tag l a b bl (nth ws j)).2=8)
def qV(m:aT)(b:Bel)(tag:Int)(l:List Int)(a c bl:Int):Bel×Int:=
 if mT m b tag≠0 then(b,mT m b tag)else match (List.range b.worlds.length).find? (CE m tag l a c bl b.worlds)with
  | some i=>(b,(zR m tag l a c bl (nth b.worlds i)).2)
  | none=>(⟨oI m tag l a c bl b.worlds b.worlds.length⟩,0)
theorem Ej{m:aT}{b:Bel}{tag:Int}(e0:mT m b tag=0):qi m b=true∧∀i,i<b.worlds.length→0≤bO (nth b.worlds i).tags tag∧bO (nth b.worlds i).tags tag<(nth b.worlds i).whr.length:=by
 have hb:qi m b=true:=by
  unfold mT at e0
  by_cases hb:qi m b=true
  · exact hb
  · rw[if_pos (by simpa using hb)]at e0;omega
 have ht:0≤bO (nth b.worlds 0).tags tag:=by
  unfold mT at e0
  rw[if_neg (by simp[hb])]at e0
  by_cases ht:bO (nth b.worlds 0).tags tag<0
  · rw[if_pos ht]at e0;omega
  · omega
 refine⟨hb,fun i hi=>?_⟩
 obtain⟨-, -, -, -,h5⟩:=fI hb
 obtain⟨w1,w2, -⟩:=gC (h5 i hi)
 have b1:=yu hb ht (i:=i) hi
 have b2:=(vl b1).1
 exact⟨b1,by omega⟩
theorem JV{m:aT}(h:m.ok)(b:Bel)(hs:b.sz)(tag:Int)(l:List Int)(hp:l.length≤1000000)(a c bl:Int):
 aO 0 N.dz [.t m.e,.t b.e,I tag,.t (tL l),I a,I c,I bl] []=some (.tup [.t (qV m b tag l a c bl).1.e,I (qV m b tag l a c bl).2],[]):=by
 refine ay K.nI rfl ?_
 have cb:=vm b hs
 have bo:=FV h b hs tag
 unfold qV
 by_cases e0:mT m b tag=0
 · obtain⟨hb,bb⟩:=Ej e0
   rw[e0]at bo
   obtain⟨ws⟩:=b
   obtain⟨s1,s2⟩:=hs
   simp only at s1 s2 bb cb bo ⊢
   have ln:=uy m tag l a c bl ws
   have loop:=fun x y u v w p q r=>uq (gc:=true) (dead:=[0,1,10,11,14,15,16,17]) (c:=K.cT)
    (vs:=[x,y,I tag,.t (tL l),I a,I c,I bl,.bp 0 0,.bp 1 0,.bp 2 0,u,v,.bp 3 0,I 0,w,p,q,r]) (H:=vn m ws [])
    (fun j=>⟨[.und,.und,I tag,.t (tL l),I a,I c,I bl,.bp 0 0,.bp 1 0,.bp 2 0,.und,.und,.bp 3 0,I j,.und,.und,.und,.und],vn m ws (oI m tag l a c bl ws j)⟩) ws.length (CE m tag l a c bl ws)
    (fun j q=>q.1= .ret∧q.2.vs[9]?=some (.bp 2 0)∧q.2.vs[10]?=some (I (zR m tag l a c bl (nth ws j)).2)∧q.2.H[2]?=some (.box [.t (.sl (ws.map World.e))]))
    (.exit 0,⟨[.und,.und,I tag,.t (tL l),I a,I c,I bl,.bp 0 0,.bp 1 0,.bp 2 0,.und,.und,.bp 3 0,I ws.length,.und,.und,.und,.und],vn m ws (oI m tag l a c bl ws ws.length)⟩) rfl
    (fun j hj hq=>by
     have:=ln j
     have hq:¬((zR m tag l a c bl (nth ws j)).2=6∨(zR m tag l a c bl (nth ws j)).2=8):=by simpa [CE]using hq
     obtain⟨b1,b2⟩:=bb j hj
     exact(CD h ws s1 tag l hp a c bl j hj (s2 _ (ae hj)) b1 b2 (oI m tag l a c bl ws j) (by omega)).1 (by omega))
    (fun j hj hq=>by
     have:=ln j
     have hq:(zR m tag l a c bl (nth ws j)).2=6∨(zR m tag l a c bl (nth ws j)).2=8:=by simpa [CE]using hq
     obtain⟨b1,b2⟩:=bb j hj
     obtain⟨vs,H,q1,q2⟩:=(CD h ws s1 tag l hp a c bl j hj (s2 _ (ae hj)) b1 b2 (oI m tag l a c bl ws j) (by omega)).2 hq
     exact⟨_,q1,by simp,rfl,q2⟩)
    (by
     have:=ln ws.length
     generalize oI m tag l a c bl ws ws.length=L at*
     simp (disch:=omega) only[go_sem,K.cT,↓reduceIte,vn,Nat.reduceAdd,Nat.reduceSub]) (by simp)
   rcases loop (.t m.e) (.t (Bel.e ⟨ws⟩)) (I 0) (I 0) .und .und .und .und with⟨e1,e2⟩ | ⟨j,⟨x,vs,H⟩,e1,e2,e3,e4,e5,e6⟩
   · have e2:exS aO K.mB _=_:=e2
     simp only[vn,List.map_nil,List.length_nil]at e2
     have:=ln ws.length
     rw[e1]
     generalize oI m tag l a c bl ws ws.length=L at*
     simp (disch:=omega) only[go_sem,K.dz,↓reduceIte,cb,bo,e2,Nat.reduceAdd,Nat.reduceSub,ne_eq,not_true_eq_false]
   · have e2:exS aO K.mB _=_:=e2
     simp only[vn,List.map_nil,List.length_nil]at e2
     rw[e1]
     simp only at e3 e4 e5 e6
     subst e3
     simp (disch:=omega) only[go_sem,K.dz,↓reduceIte,cb,bo,e2,Nat.reduceAdd,Nat.reduceSub,ne_eq,not_true_eq_false,e4,e5,e6,List.take_zero]
 · obtain⟨ws⟩:=b
   simp (disch:=omega) only[go_sem,K.dz,↓reduceIte,cb,bo,e0,ne_eq,not_false_eq_true]
theorem FW{gc:Bool}{dead:List Nat}{c:C}{vs:List D}{H:ai}(P:Nat→St→Prop)(n:Nat)(Q:Ex×St→Prop)(h0:P 0 ⟨iY dead vs,H⟩)
 (hs:∀j st,j<n→P j st→∃st',eO gc dead st.H.length (exS aO c st)=some st'∧P (j+1) st')
 (he:∀st,P n st→∃q,exS aO c st=some q∧q.1≠ .normal∧Q q):∃q,exS aO (.loop gc dead c) ⟨vs,H⟩=some q∧Q q:=by
 have key:∀(k j:Nat) (st:St),j+k=n→P j st→∃q,lX gc dead (exS aO c) st=some q∧Q q:=by
  intro k
  induction k with
  | zero=>
    intro j st hj hp
    obtain⟨q,h1,h2,h3⟩:=he st (by rw[← hj];exact hp)
    exact⟨q,de h1 h2,h3⟩
  | succ k ih=>
    intro j st hj hp
    obtain⟨st',h1,h2⟩:=hs j st (by omega) hp
    obtain⟨q,h3,h4⟩:=ih (j+1) st' (by omega) h2
    exact⟨q,jK h1 h3,h4⟩
 exact key n 0 _ (by omega) h0
abbrev ints(l:List Int):List D:=(l.map (T.int .i64)).map .t
abbrev whs(l:List Wh):List D:=(l.map Wh.e).map .t
def cA(out:List World)(x:World):Nat:=match (List.range out.length).find? (fun k=> !qQ (nth out k).tags x.tags)with
 | some k=>k
 | none=>out.length
theorem uz(out:List World)(x:World):cA out x≤out.length:=by
 unfold cA
 split
 · rename_i k h;exact Nat.le_of_lt (x8 h).1
 · exact Nat.le_refl _
def iN(a b:List Wh):Nat→List Wh
 | 0=>a
 | p+1=>(iN a b p).set p (gW (nth a p) (nth b p)).1
theorem gK(a b:List Wh):∀p,(iN a b p).length=a.length
 | 0=>rfl
 | p+1=>by simp only[iN,List.length_set,gK a b p]
theorem yv(a b:List Wh):∀p q,p≤q→nth (iN a b p) q=nth a q
 | 0,q,_=>rfl
 | p+1,q,h=>by
   have e:nth ((iN a b p).set p (gW (nth a p) (nth b p)).1) q=nth (iN a b p) q:=by
    unfold nth;rw[List.getD_eq_getElem?_getD,List.getElem?_set_ne (by omega),←List.getD_eq_getElem?_getD]
   simp only[iN,e]
   exact yv a b p q (by omega)
def gr(a b:List Wh):List Wh:=iN a b (min a.length b.length)
def gL(out:List World)(x:World):List World:=
 if cA out x<out.length∧(nth out (cA out x)).tags=x.tags then out.set (cA out x) ⟨x.tags,gr (nth out (cA out x)).whr x.whr⟩
 else out.take (cA out x)++[x]++out.drop (cA out x)
def oJ(l:List World):Nat→List World
 | 0=>[]
 | j+1=>gL (oJ l j) (nth l j)
def m6(l:List World):List World:=oJ l l.length
structure Rp(H:ai)(id:Nat)(es:List D)(fa fb:Nat→Nat)(out:List World):Prop where
 arr:H[id]?=some (.arr 2 false 0 es)
 len:es.length=out.length
 el:∀j,j<out.length→es[j]?=some (.agg [.ref (fa j) 0 (nth out j).tags.length,.ref (fb j) 0 (nth out j).whr.length])
 ha:∀j,j<out.length→H[fa j]?=some (.arr 1 false 0 (ints (nth out j).tags))
 hb:∀j,j<out.length→H[fb j]?=some (.arr 2 false 0 (whs (nth out j).whr))
 na:∀j,j<out.length→fa j≠id
 nb:∀j,j<out.length→fb j≠id
 nab:∀i j,i<out.length→j<out.length→fa i≠fb j
 nbb:∀i j,i<out.length→j<out.length→i≠j→fb i≠fb j
def Rep(H:ai)(v:D)(out:List World):Prop:=(v= .nil∧out=[])∨∃id es fa fb,v= .ref id 0 out.length∧0<out.length∧Rp H id es fa fb out
theorem RO(l:List World)(i:Nat)(hi:i<l.length)(out:List World)(ho:out.length≤1000000)(hso:∀x∈out,x.sz)(hsx:(nth l i).sz)(H:ai)(v:D)(hr:Rep H v out)(a b:D):
 exS aO K.pd ⟨[.t (.sl (l.map World.e)),a,v,I i,I 0,b],H⟩=some (.exit 2,⟨[.t (.sl (l.map World.e)),.und,v,I i,I (cA out (nth l i)),.und],H⟩):=by
 rcases hr with⟨rfl,rfl⟩ | ⟨id,es,fa,fb,rfl,h0,hr⟩
 · have:cA [] (nth l i)=0:=rfl
   rw[this]
   refine sN (de ?_ (by simp))
   simp (disch:=omega) only[go_sem,K.i9,↓reduceIte,Nat.reduceAdd,Nat.reduceSub]
 · have key:exS aO K.pd ⟨[.t (.sl (l.map World.e)),a,.ref id 0 out.length,I i,I 0,b],H⟩=some (match (List.range out.length).find? (fun k=> !qQ (nth out k).tags (nth l i).tags)with
    | some k=>(.exit 2,⟨[.t (.sl (l.map World.e)),.und,.ref id 0 out.length,I i,I k,.und],H⟩)
    | none=>(.exit 2,⟨[.t (.sl (l.map World.e)),.und,.ref id 0 out.length,I i,I out.length,.und],H⟩)):=by
    refine cu (fun k=>⟨[.t (.sl (l.map World.e)),.und,.ref id 0 out.length,I i,I k,.und],H⟩) out.length _ _ _ rfl ?_ ?_ ?_ (by simp)
    · intro k hk hp
      have hp:qQ (nth out k).tags (nth l i).tags=true:=by simpa using hp
      have s1:=(hso _ (ae hk)).1
      have s2:=hsx.1
      have ls:=D7 (nth out k).tags (nth l i).tags s1 s2
      have e1:=hr.arr
      have e2:=hr.len
      have e3:=hr.el k hk
      have e4:=hr.ha k hk
      generalize nth out k=y at*
      obtain⟨ta,wa⟩:=y
      generalize hx:nth l i=x at*
      obtain⟨tb,wb⟩:=x
      simp only at s1 s2 ls e3 e4 hp
      simp (disch:=omega) only[go_sem,K.i9,↓reduceIte,Nat.reduceAdd,Nat.reduceSub,e1,e2,e3,e4,hx,ls,hp]
      done
    · intro k hk hp
      have hp:qQ (nth out k).tags (nth l i).tags=false:=by simpa using hp
      have s1:=(hso _ (ae hk)).1
      have s2:=hsx.1
      have ls:=D7 (nth out k).tags (nth l i).tags s1 s2
      have e1:=hr.arr
      have e2:=hr.len
      have e3:=hr.el k hk
      have e4:=hr.ha k hk
      generalize nth out k=y at*
      obtain⟨ta,wa⟩:=y
      generalize hx:nth l i=x at*
      obtain⟨tb,wb⟩:=x
      simp only at s1 s2 ls e3 e4 hp
      refine⟨?_,by simp⟩
      simp (disch:=omega) only[go_sem,K.i9,↓reduceIte,Nat.reduceAdd,Nat.reduceSub,e1,e2,e3,e4,hx,ls,hp]
      done
    · simp (disch:=omega) only[go_sem,K.i9,↓reduceIte,Nat.reduceAdd,Nat.reduceSub]
   rw[key]
   unfold cA
   cases (List.range out.length).find? (fun k=> !qQ (nth out k).tags (nth l i).tags)<;>rfl
@[go_sem] theorem ZJ (a b : Wh) : (gW a b).1.e = .agg [tI (gW a b).1.time, tL (gW a b).1.frm] := rfl
theorem RP(l:List World)(i:Nat)(hi:i<l.length)(out:List World)(ho:out.length≤1000000)(hso:∀x∈out,x.sz)(hsx:(nth l i).sz)(H:ai)(id:Nat)(es:List D)(fa fb:Nat→Nat)
 (hr:Rp H id es fa fb out) (k:Nat) (hk:k<out.length) (a:D):
 exS aO K.tX ⟨[.t (.sl (l.map World.e)),a,.ref id 0 out.length,I i,I k,I 0],H⟩=
 some (.exit 4,⟨[.t (.sl (l.map World.e)),.und,.ref id 0 out.length,I i,I k,I ((min (nth out k).whr.length (nth l i).whr.length:Nat):Int)],H.set (fb k) (.arr 2 false 0 (whs (gr (nth out k).whr (nth l i).whr)))⟩):=by
 have e1:=hr.arr
 have e2:=hr.len
 have e3:=hr.el k hk
 have e5:=hr.hb k hk
 have e6:=hr.nb k hk
 have e7:=mI e5
 obtain⟨s1,s2,s3⟩:=hso _ (ae hk)
 obtain⟨x1,x2,x3⟩:=hsx
 generalize nth out k=y at*
 obtain⟨ta,wa⟩:=y
 generalize hx:nth l i=x at*
 obtain⟨tb,wb⟩:=x
 simp only at s1 s2 s3 x1 x2 x3 e3 e5 ⊢
 have jl:=gK wa wb
 have q1:∀o,(H.set (fb k) o)[id]?=H[id]?:=fun o=>ja e6
 have q2:∀o,(H.set (fb k) o)[fb k]?=some o:=fun o=>oC e7
 refine cE (fun p=>⟨[.t (.sl (l.map World.e)),.und,.ref id 0 out.length,I i,I k,I p],H.set (fb k) (.arr 2 false 0 (whs (iN wa wb p)))⟩) (min wa.length wb.length) ?_ ?_ ?_ (by simp)
 · show(⟨_,H⟩:St)=⟨_,H.set (fb k) (.arr 2 false 0 (whs wa))⟩
   rw[Ay e5];rfl
 · intro p hp
   have jp:=jl p
   have jn:=yv wa wb p p (Nat.le_refl _)
   have jo:=QA (nth wa p) (nth wb p) (s3 _ (ae (by omega)))
   have hj:iN wa wb (p+1)=(iN wa wb p).set p (gW (nth wa p) (nth wb p)).1:=rfl
   rw[hj]
   generalize iN wa wb p=J at*
   generalize hu:nth wb p=u at*
   generalize nth wa p=w at*
   generalize gW w u=r at*
   obtain⟨⟨rt,rf⟩,re⟩:=r
   simp only at jo ⊢
   simp (disch:=omega) only[go_sem,K.kS,↓reduceIte,Nat.reduceAdd,Nat.reduceSub,q1,q2,e1,e2,e3,rC,hx,hu,jn,jo]
 · have jp:=jl (min wa.length wb.length)
   have hj:gr wa wb=iN wa wb (min wa.length wb.length):=rfl
   rw[hj]
   generalize iN wa wb (min wa.length wb.length)=J at*
   by_cases c:wa.length≤wb.length
   · simp (disch:=omega) only[go_sem,K.kS,↓reduceIte,Nat.reduceAdd,Nat.reduceSub,q1,q2,e1,e2,e3,rC,hx,Nat.min_eq_left c]
   · have hm:min wa.length wb.length=wb.length:=by omega
     simp (disch:=omega) only[go_sem,K.kS,↓reduceIte,Nat.reduceAdd,Nat.reduceSub,q1,q2,e1,e2,e3,rC,hx,hm]
theorem wB{sz:Nat}{l:List D}(h:∀e∈l,e.cells.length=sz):b5 sz l=true:=by
 cases l with
 | nil=>rfl
 | cons d r=>rw[AM,eV];exact h d List.mem_cons_self
theorem Rp.size{H:ai}{id:Nat}{es:List D}{fa fb:Nat→Nat}{out:List World}(hr:Rp H id es fa fb out):∀e∈es,e.cells.length=2:=by
 intro e he
 obtain⟨j,hj⟩:=List.mem_iff_getElem?.1 he
 have hl:=(List.getElem?_eq_some_iff.1 hj).1
 rw[hr.el j (by rw[← hr.len];exact hl)]at hj
 cases hj;rfl
theorem JW{α:Type}(l:List α)(k:Nat)(hk:k≤l.length)(x:α)(j:Nat):(l.take k++[x]++l.drop k)[j]?=if j<k then l[j]? else if j=k then some x else l[j-1]?:=by
 have hl:(l.take k).length=k:=by rw[List.length_take];omega
 rw[List.append_assoc]
 by_cases h1:j<k
 · rw[if_pos h1,List.getElem?_append_left (by omega),List.getElem?_take_of_lt h1]
 · rw[if_neg h1,List.getElem?_append_right (by omega),hl]
   by_cases h2:j=k
   · rw[if_pos h2,h2,Nat.sub_self];rfl
   · rw[if_neg h2,List.getElem?_append_right (by simp;omega)]
     simp only[List.length_singleton,List.getElem?_drop]
     congr 1;omega
theorem Ek{α:Type} [Dat α](l:List α)(k:Nat)(hk:k≤l.length)(x:α)(j:Nat):nth (l.take k++[x]++l.drop k) j=if j<k then nth l j else if j=k then x else nth l (j-1):=by
 unfold nth
 rw[List.getD_eq_getElem?_getD,JW l k hk]
 split
 · rw[List.getD_eq_getElem?_getD]
 · split
   · rfl
   · rw[List.getD_eq_getElem?_getD]
theorem s0{α:Type} [Dat α](l:List α)(k:Nat)(hk:k<l.length)(x:α)(j:Nat):nth (l.set k x) j=if j=k then x else nth l j:=by
 unfold nth
 rw[List.getD_eq_getElem?_getD]
 by_cases h:j=k
 · rw[if_pos h,h,List.getElem?_set_self hk];rfl
 · rw[if_neg h,List.getElem?_set_ne (fun e=>h e.symm),List.getD_eq_getElem?_getD]
theorem Rp.ins{H:ai}{id:Nat}{es:List D}{fa fb:Nat→Nat}{out:List World}(hr:Rp H id es fa fb out){k:Nat}(hk:k≤out.length)(x:World)(o:Obj):
 Rp (H++[.arr 2 false 0 (es.take k++[.agg [.ref (H.length+1) 0 x.tags.length,.ref (H.length+2) 0 x.whr.length]]++es.drop k),.arr 1 false 0 (ints x.tags),.arr 2 false 0 (whs x.whr),o]) H.length
  (es.take k++[.agg [.ref (H.length+1) 0 x.tags.length,.ref (H.length+2) 0 x.whr.length]]++es.drop k)
  (fun j=>if j<k then fa j else if j=k then H.length+1 else fa (j-1)) (fun j=>if j<k then fb j else if j=k then H.length+2 else fb (j-1)) (out.take k++[x]++out.drop k):=by
 have ol:(out.take k++[x]++out.drop k).length=out.length+1:=by
  rw[List.length_append,List.length_append,List.length_take,List.length_drop,List.length_singleton];omega
 have e2:=hr.len
 have ba:∀j,j<out.length→fa j<H.length:=fun j hj=>mI (hr.ha j hj)
 have bb:∀j,j<out.length→fb j<H.length:=fun j hj=>mI (hr.hb j hj)
 refine⟨iK,?_,?_,?_,?_,?_,?_,?_,?_⟩
 · rw[ol,List.length_append,List.length_append,List.length_take,List.length_drop,List.length_singleton];omega
 · intro j hj
   rw[ol]at hj
   simp only[JW es k (by omega),Ek out k hk]
   by_cases h1:j<k
   · simp only[if_pos h1];exact hr.el j (by omega)
   · by_cases h2:j=k
     · simp only[if_neg h1,if_pos h2]
     · simp only[if_neg h1,if_neg h2];exact hr.el (j-1) (by omega)
 · intro j hj
   rw[ol]at hj
   simp only[Ek out k hk]
   by_cases h1:j<k
   · simp only[if_pos h1];rw[im (ba j (by omega))];exact hr.ha j (by omega)
   · by_cases h2:j=k
     · simp only[if_neg h1,if_pos h2];rw[gh];rfl
     · simp only[if_neg h1,if_neg h2];rw[im (ba (j-1) (by omega))];exact hr.ha (j-1) (by omega)
 · intro j hj
   rw[ol]at hj
   simp only[Ek out k hk]
   by_cases h1:j<k
   · simp only[if_pos h1];rw[im (bb j (by omega))];exact hr.hb j (by omega)
   · by_cases h2:j=k
     · simp only[if_neg h1,if_pos h2];rw[gh];rfl
     · simp only[if_neg h1,if_neg h2];rw[im (bb (j-1) (by omega))];exact hr.hb (j-1) (by omega)
 · intro j hj
   rw[ol]at hj
   have b1:=ba j
   have b2:=ba (j-1)
   split
   · have:=b1 (by omega);omega
   · split
     · omega
     · have:=b2 (by omega);omega
 · intro j hj
   rw[ol]at hj
   have b1:=bb j
   have b2:=bb (j-1)
   split
   · have:=b1 (by omega);omega
   · split
     · omega
     · have:=b2 (by omega);omega
 · intro i j hi hj
   rw[ol]at hi hj
   have a1:=ba i
   have a2:=ba (i-1)
   have b1:=bb j
   have b2:=bb (j-1)
   by_cases h1:i<k
   · rw[if_pos h1]
     have:=a1 (by omega)
     by_cases h2:j<k
     · rw[if_pos h2];exact hr.nab i j (by omega) (by omega)
     · rw[if_neg h2]
       by_cases h3:j=k
       · rw[if_pos h3];omega
       · rw[if_neg h3];exact hr.nab i (j-1) (by omega) (by omega)
   · rw[if_neg h1]
     by_cases h4:i=k
     · rw[if_pos h4]
       split
       · have:=b1 (by omega);omega
       · split
         · omega
         · have:=b2 (by omega);omega
     · rw[if_neg h4]
       have:=a2 (by omega)
       by_cases h2:j<k
       · rw[if_pos h2];exact hr.nab (i-1) j (by omega) (by omega)
       · rw[if_neg h2]
         by_cases h3:j=k
         · rw[if_pos h3];omega
         · rw[if_neg h3];exact hr.nab (i-1) (j-1) (by omega) (by omega)
 · intro i j hi hj hne
   rw[ol]at hi hj
   have a1:=bb i
   have a2:=bb (i-1)
   have b1:=bb j
   have b2:=bb (j-1)
   by_cases h1:i<k
   · rw[if_pos h1]
     have:=a1 (by omega)
     by_cases h2:j<k
     · rw[if_pos h2];exact hr.nbb i j (by omega) (by omega) hne
     · rw[if_neg h2]
       by_cases h3:j=k
       · rw[if_pos h3];omega
       · rw[if_neg h3];exact hr.nbb i (j-1) (by omega) (by omega) (by omega)
   · rw[if_neg h1]
     by_cases h4:i=k
     · rw[if_pos h4]
       split
       · have:=b1 (by omega);omega
       · split
         · omega
         · have:=b2 (by omega);omega
     · rw[if_neg h4]
       have:=a2 (by omega)
       by_cases h2:j<k
       · rw[if_pos h2];exact hr.nbb (i-1) j (by omega) (by omega) (by omega)
       · rw[if_neg h2]
         by_cases h3:j=k
         · rw[if_pos h3];omega
         · rw[if_neg h3];exact hr.nbb (i-1) (j-1) (by omega) (by omega) (by omega)
theorem Rp.merge{H:ai}{id:Nat}{es:List D}{fa fb:Nat→Nat}{out:List World}(hr:Rp H id es fa fb out){k:Nat}(hk:k<out.length)(x:World)(ht:(nth out k).tags=x.tags)(hw:x.whr.length=(nth out k).whr.length):
 Rp (H.set (fb k) (.arr 2 false 0 (whs x.whr))) id es fa fb (out.set k x):=by
 have ol:(out.set k x).length=out.length:=List.length_set
 have nk:=hr.nb k hk
 have kl:=mI (hr.hb k hk)
 refine⟨by rw[ja nk];exact hr.arr,by rw[ol];exact hr.len,?_,?_,?_,by rw[ol];exact hr.na,by rw[ol];exact hr.nb,by rw[ol];exact hr.nab,by rw[ol];exact hr.nbb⟩
 · intro j hj
   rw[ol]at hj
   rw[hr.el j hj,s0 out k hk]
   by_cases h:j=k
   · rw[if_pos h,h,ht,hw]
   · rw[if_neg h]
 · intro j hj
   rw[ol]at hj
   rw[ja (fun e=>hr.nab j k hj hk e.symm),hr.ha j hj,s0 out k hk]
   by_cases h:j=k
   · rw[if_pos h,h,ht]
   · rw[if_neg h]
 · intro j hj
   rw[ol]at hj
   rw[s0 out k hk]
   by_cases h:j=k
   · rw[if_pos h,h,oC kl]
   · rw[if_neg h,ja (fun e=>hr.nbb j k hj hk h e.symm)];exact hr.hb j hj
theorem Hc(l:List World)(i:Nat)(hi:i<l.length)(hl:l.length≤1000000)(out:List World)(ho:out.length≤999999)(hso:∀x∈out,x.sz)(hsx:(nth l i).sz)(H:ai)(v:D)(hr:Rep H v out):
 ∃v' H',eO false [1,4,5] H.length (exS aO K.dR ⟨[.t (.sl (l.map World.e)),.und,v,I i,.und,.und],H⟩)=some ⟨[.t (.sl (l.map World.e)),.und,v',I (i+1),.und,.und],H'⟩∧Rep H' v' (gL out (nth l i)):=by
 have l2:=RO l i hi out (by omega) hso hsx H v hr
 have kl:=uz out (nth l i)
 have cw:=mc (nth l i) hsx
 rcases hr with⟨rfl,rfl⟩ | ⟨id,es,fa,fb,rfl,h0,hr⟩
 · have k0:cA [] (nth l i)=0:=rfl
   rw[k0]at l2
   have t1:gL [] (nth l i)=[nth l i]:=rfl
   rw[t1]
   generalize hx:nth l i=x at*
   obtain⟨tb,wb⟩:=x
   simp only at cw
   have run:eO false [1,4,5] H.length (exS aO K.dR ⟨[.t (.sl (l.map World.e)),.und,.nil,I i,.und,.und],H⟩)=
    some ⟨[.t (.sl (l.map World.e)),.und,.ref H.length 0 1,I (i+1),.und,.und],H++[.arr 2 false 0 [.agg [.ref (H.length+1) 0 tb.length,.ref (H.length+2) 0 wb.length]],.arr 1 false 0 (ints tb),.arr 2 false 0 (whs wb),.arr 2 false 0 [.agg [.ref (H.length+1) 0 tb.length,.ref (H.length+2) 0 wb.length]]]⟩:=by
    simp (disch:=omega) only[go_sem,K.dR,↓reduceIte,Nat.reduceAdd,Nat.reduceSub,l2,hx,cw,iK,gh,mq,rD,Nat.add_assoc]
   refine⟨_,_,run,.inr ⟨H.length,_,fun _=>H.length+1,fun _=>H.length+2,rfl,by simp,⟨iK,rfl,?_,?_,?_,?_,?_,?_,?_⟩⟩⟩
   all_goals skip
   · intro j hj;obtain rfl:j=0:=by simpa using hj
     rfl
   · intro j hj;obtain rfl:j=0:=by simpa using hj
     rw[gh];rfl
   · intro j hj;obtain rfl:j=0:=by simpa using hj
     rw[gh];rfl
   · intro j hj;omega
   · intro j hj;omega
   · intro i j hi hj;omega
   · intro i j hi hj hne
     have h1:i=0:=by simpa using hi
     have h2:j=0:=by simpa using hj
     omega
 · have e1:=hr.arr
   have e2:=hr.len
   have e7:=mI e1
   by_cases c:cA out (nth l i)<out.length∧(nth out (cA out (nth l i))).tags=(nth l i).tags
   · obtain⟨ck,ct⟩:=c
     have l3:=RP l i hi out (by omega) hso hsx H id es fa fb hr (cA out (nth l i)) ck
     have s1:=(hso _ (ae ck)).1
     have sm:=AD (nth out (cA out (nth l i))).tags (nth l i).tags (by omega)
     have t1:gL out (nth l i)=out.set (cA out (nth l i)) ⟨(nth l i).tags,gr (nth out (cA out (nth l i))).whr (nth l i).whr⟩:=by unfold gL;rw[if_pos ⟨ck,ct⟩]
     rw[t1]
     simp only[ct,decide_true]at sm
     generalize cA out (nth l i)=k at*
     have e3:=hr.el k ck
     have e4:=hr.ha k ck
     have mg:=hr.merge ck ⟨(nth l i).tags,gr (nth out k).whr (nth l i).whr⟩ ct (gK _ _ _)
     refine⟨.ref id 0 out.length,_,?_,.inr ⟨id,es,fa,fb,by rw[List.length_set],by rw[List.length_set];omega,mg⟩⟩
     generalize nth out k=y at*
     obtain⟨ta,wa⟩:=y
     simp only at ct
     subst ct
     generalize hx:nth l i=x at*
     obtain⟨tb,wb⟩:=x
     simp only at s1 sm e3 e4 cw l3 ⊢
     simp (disch:=omega) only[go_sem,K.dR,↓reduceIte,Nat.reduceAdd,Nat.reduceSub,l2,l3,hx,cw,sm,e1,e2,e3,e4]
   · have t1:gL out (nth l i)=out.take (cA out (nth l i))++[nth l i]++out.drop (cA out (nth l i)):=by unfold gL;rw[if_neg c]
     rw[t1]
     generalize cA out (nth l i)=k at*
     have hs1:b5 2 (es.take k)=true:=wB fun e he=>hr.size e (List.mem_of_mem_take he)
     have hs2:b5 2 (es.drop k)=true:=wB fun e he=>hr.size e (List.mem_of_mem_drop he)
     have hs3:(es.drop k).take (out.length-k)=es.drop k:=List.take_of_length_le (by simp[e2])
     have hs4:(es.take k).length=k:=by rw[List.length_take];omega
     have hs5:(es.drop k).length=out.length-k:=by rw[List.length_drop,e2]
     have hs6:k+(1+(out.length-k))=out.length+1:=by omega
     have s2:=hsx.1
     have run:eO false [1,4,5] H.length (exS aO K.dR ⟨[.t (.sl (l.map World.e)),.und,.ref id 0 out.length,I i,.und,.und],H⟩)=
      some ⟨[.t (.sl (l.map World.e)),.und,.ref H.length 0 (out.length+1),I (i+1),.und,.und],H++[.arr 2 false 0 (es.take k++[.agg [.ref (H.length+1) 0 (nth l i).tags.length,.ref (H.length+2) 0 (nth l i).whr.length]]++es.drop k),.arr 1 false 0 (ints (nth l i).tags),.arr 2 false 0 (whs (nth l i).whr),.arr 2 false 0 [.agg [.ref (H.length+1) 0 (nth l i).tags.length,.ref (H.length+2) 0 (nth l i).whr.length]]]⟩:=by
      by_cases ck:k<out.length
      · have s1:=(hso _ (ae ck)).1
        have sm:=AD (nth out k).tags (nth l i).tags (by omega)
        have ct:¬(nth out k).tags=(nth l i).tags:=fun h=>c ⟨ck,h⟩
        have e3:=hr.el k ck
        have e4:=hr.ha k ck
        generalize nth out k=y at*
        obtain⟨ta,wa⟩:=y
        generalize hx:nth l i=x at*
        obtain⟨tb,wb⟩:=x
        simp only at s1 s2 sm e3 e4 ct cw
        simp only[ct,decide_false]at sm
        simp (disch:=omega) only[go_sem,K.dR,↓reduceIte,Nat.reduceAdd,Nat.reduceSub,l2,hx,cw,sm,e1,e2,e3,e4,hs1,hs2,hs3,hs4,hs5,hs6,im,iK,gh,mq,rD,Nat.add_assoc,Nat.sub_zero]
      · have ek:k=out.length:=by omega
        subst ek
        generalize hx:nth l i=x at*
        obtain⟨tb,wb⟩:=x
        simp only at s2 cw
        simp (disch:=omega) only[go_sem,K.dR,↓reduceIte,Nat.reduceAdd,Nat.reduceSub,l2,hx,cw,e1,e2,hs1,hs2,hs3,hs4,hs5,hs6,im,iK,gh,mq,rD,Nat.add_assoc,Nat.sub_zero]
     exact⟨_,_,run,.inr ⟨H.length,_,_,_,by rw[List.length_append,List.length_append,List.length_take,List.length_drop,List.length_singleton,Nat.min_eq_left kl];congr 1;omega,by rw[List.length_append,List.length_append,List.length_singleton];omega,hr.ins kl (nth l i) _⟩⟩
theorem uA(out:List World)(x:World):(gL out x).length≤out.length+1∧out.length≤(gL out x).length∧1≤(gL out x).length:=by
 have kl:=uz out x
 unfold gL
 split
 · rename_i h
   rw[List.length_set];omega
 · rw[List.length_append,List.length_append,List.length_take,List.length_drop,List.length_singleton];omega
theorem CF(l:List World):∀j,(oJ l j).length≤j
 | 0=>Nat.le_refl _
 | j+1=>by
   have:=CF l j
   have:=(uA (oJ l j) (nth l j)).1
   simp only[oJ];omega
theorem JX(a b:Wh):(gW a b).1.frm.length≤a.frm.length:=by
 unfold gW
 split
 · simp only[kT];omega
 · simp
theorem FX(a b:List Wh)(n:Nat)(h:∀w∈a,w.frm.length≤n):∀p,p≤a.length→∀w∈iN a b p,w.frm.length≤n
 | 0,_,w,hw=>h w hw
 | p+1,hp,w,hw=>by
   simp only[iN]at hw
   rcases List.mem_or_eq_of_mem_set hw with hw | rfl
   · exact FX a b n h p (by omega) w hw
   · exact Nat.le_trans (JX _ _) (h _ (ae (by omega)))
theorem MB{out:List World}{x:World}(ho:∀y∈out,y.sz)(hx:x.sz):∀y∈gL out x,y.sz:=by
 intro y hy
 unfold gL at hy
 split at hy
 · rename_i h
   rcases List.mem_or_eq_of_mem_set hy with hy | rfl
   · exact ho y hy
   · obtain⟨s1,s2,s3⟩:=ho _ (ae h.1)
     refine⟨hx.1,?_,?_⟩
     · show(iN _ _ _).length≤_
       rw[gK];exact s2
     · exact FX _ _ _ s3 _ (Nat.min_le_left _ _)
 · rcases List.mem_append.1 hy with hy | hy
   · rcases List.mem_append.1 hy with hy | hy
     · exact ho y (List.mem_of_mem_take hy)
     · rw[List.mem_singleton.1 hy];exact hx
   · exact ho y (List.mem_of_mem_drop hy)
theorem FY{l:List World}(hl:∀x∈l,x.sz):∀j,j≤l.length→∀y∈oJ l j,y.sz
 | 0,_,y,hy=>by simp[oJ]at hy
 | j+1,h,y,hy=>MB (FY hl j (by omega)) (hl _ (ae (by omega))) y hy
theorem Rp.frz{H:ai}{id:Nat}{es:List D}{fa fb:Nat→Nat}{out:List World}(hr:Rp H id es fa fb out):
 bL (frz H 8) es=some (out.map World.e)∧∀i∈es.flatMap (eL H 8),i≠id:=by
 have hl:=hr.len
 have key:∀(j:Nat) (hj:j<out.length),Go.Ev.frz H 8 (.agg [.ref (fa j) 0 (nth out j).tags.length,.ref (fb j) 0 (nth out j).whr.length])=some (nth out j).e∧
  eL H 8 (.agg [.ref (fa j) 0 (nth out j).tags.length,.ref (fb j) 0 (nth out j).whr.length])=[fa j,fb j]:=by
  intro j hj
  have h1:=hr.ha j hj
  have h2:=hr.hb j hj
  simp (disch:=omega) only[go_sem,h1,h2,ints,whs,↓reduceIte]
 constructor
 · have:∀(es:List D) (ts:List T),es.length=ts.length→(∀(j:Nat) e t,es[j]?=some e→ts[j]?=some t→Go.Ev.frz H 8 e=some t)→bL (Go.Ev.frz H 8) es=some ts:=by
    intro es
    induction es with
    | nil=>intro ts h _;cases ts with
      | nil=>rfl
      | cons=>simp at h
    | cons e es ih=>
      intro ts h hh
      cases ts with
      | nil=>simp at h
      | cons t ts=>
        have h1:=hh 0 e t rfl rfl
        have h2:=ih ts (by simpa using h) fun j e t he ht=>hh (j+1) e t (by simpa using he) (by simpa using ht)
        simp only[bL,h1,Option.bind_some,h2,Option.map_some]
   refine this es _ (by rw[List.length_map,hl]) fun j e t he ht=>?_
   have hj:j<out.length:=by rw[← hl];exact(List.getElem?_eq_some_iff.1 he).1
   rw[hr.el j hj]at he
   rw[cZ _ hj]at ht
   cases he;cases ht
   exact(key j hj).1
 · intro i hi
   obtain⟨e,he,hi⟩:=List.mem_flatMap.1 hi
   obtain⟨j,hj⟩:=List.mem_iff_getElem?.1 he
   have hjl:j<out.length:=by rw[← hl];exact(List.getElem?_eq_some_iff.1 hj).1
   rw[hr.el j hjl]at hj
   cases hj
   rw[(key j hjl).2]at hi
   simp only[List.mem_cons,List.not_mem_nil,or_false]at hi
   rcases hi with rfl | rfl
   · exact hr.na j hjl
   · exact hr.nb j hjl
theorem RQ(l:List World)(h0:1≤l.length)(hl:l.length≤100000)(hs:∀x∈l,x.sz):
 aO 1 N.gO [.t (.sl (l.map World.e))] []=some (.ref 0 0 (m6 l).length,[.arr 2 false 0 (((m6 l).map World.e).map .t)]):=by
 refine ay K.qE rfl ?_
 have loop:∀a b c:D,∃q,exS aO K.tY ⟨[.t (.sl (l.map World.e)),a,.nil,I 0,b,c],[]⟩=some q∧∃v H,q=(.exit 0,⟨[.t (.sl (l.map World.e)),.und,v,I l.length,.und,.und],H⟩)∧Rep H v (m6 l):=by
  intro a b c
  refine FW (fun j st=>∃v H,st=⟨[.t (.sl (l.map World.e)),.und,v,I j,.und,.und],H⟩∧Rep H v (oJ l j)) l.length _ ⟨.nil,[],rfl,.inl ⟨rfl,rfl⟩⟩ ?_ ?_
  · rintro j st hj ⟨v,H,rfl,hr⟩
    have ln:=CF l j
    obtain⟨v',H',h1,h2⟩:=Hc l j hj (by omega) (oJ l j) (by omega) (FY hs j (by omega)) (hs _ (ae hj)) H v hr
    exact⟨_,h1,v',H',rfl,h2⟩
  · rintro st ⟨v,H,rfl,hr⟩
    refine⟨(.exit 0,⟨[.t (.sl (l.map World.e)),.und,v,I l.length,.und,.und],H⟩),?_,by simp,v,H,rfl,hr⟩
    simp (disch:=omega) only[go_sem,K.dR,↓reduceIte,Nat.reduceAdd,Nat.reduceSub]
 obtain⟨q,hq,v,H,rfl,hr⟩:=loop .nil .und .und
 have nz:1≤(m6 l).length:=by
  unfold m6
  cases hn:l.length with
  | zero=>omega
  | succ n=>exact(uA _ _).2.2
 rcases hr with⟨rfl,he⟩ | ⟨id,es,fa,fb,rfl,h0,hr⟩
 · rw[he]at nz;simp at nz
 · obtain⟨f1,f2⟩:=hr.frz
   have fin:=D3 H id 2 (m6 l).length es _ hr.arr hr.len.symm f1 f2
   simp (disch:=omega) only[go_sem,K.gO,↓reduceIte,Nat.reduceAdd,Nat.reduceSub,hq,fin]
@[go_sem] theorem OB {α β γ : Type} [Dat α] (f : β → γ) (g : α → β) {l : List α} {i j : Nat} {x : α} (h : j < l.length) : (((l.set i x).map g).map f)[j]? = some (f (g (nth (l.set i x) j))) := AA f g (by rw [List.length_set]; exact h)
def Hd(l:List Int)(i j:Nat):List Int:=(l.set i (nth l j)).set j (nth l i)
def s5(i j:Nat)(t:Int)(x:World):World:=⟨Hd x.tags i j,(x.whr.set i (lQ (nth x.whr i) t).1).set j (lQ (nth x.whr j) t).1⟩
def yx(i j:Nat)(t:Int)(x:World)(out:List World):List World:=if MA (nth x.whr i) (nth x.whr j) t=true then out++[s5 i j t x]else out
def iq(i j:Nat)(t:Int)(ws:List World):Nat→List World
 | 0=>ws
 | k+1=>yx i j t (nth ws k) (iq i j t ws k)
def mV(m:aT)(b:Bel)(i j t:Int):Bel×Int:=
 if qi m b=false then(b,6)else if i<0∨((nth b.worlds 0).tags.length:Int)≤i∨j<0∨((nth b.worlds 0).tags.length:Int)≤j∨i=j then(b,19)
 else if ¬inT t then(b,8)else if 24<(m6 (iq i.toNat j.toNat t b.worlds b.worlds.length)).length then(b,44)else(⟨m6 (iq i.toNat j.toNat t b.worlds b.worlds.length)⟩,0)
theorem JY(i j:Nat)(t:Int)(x:World)(out:List World):out.length≤(yx i j t x out).length∧(yx i j t x out).length≤out.length+1:=by
 unfold yx;split<;>(try rw[List.length_append,List.length_singleton])<;>omega
theorem rG(i j:Nat)(t:Int)(ws:List World):∀k,ws.length≤(iq i j t ws k).length∧(iq i j t ws k).length≤ws.length+k
 | 0=>⟨Nat.le_refl _,Nat.le_refl _⟩
 | k+1=>by
   have h1:=rG i j t ws k
   have h2:=JY i j t (nth ws k) (iq i j t ws k)
   simp only[iq];omega
abbrev exH(m:aT)(ws out:List World):ai:=[.box (af m),.box [.t (.sl (ws.map World.e))],.box [.nil],.arr 2 false 0 ((out.map World.e).map .t)]
theorem He(m:aT)(ws:List World)(hw:ws.length≤100000)(i j:Nat)(hij:i≠j)(t:Int)(k:Nat)(hk:k<ws.length)(hs:(nth ws k).sz)
 (i1:i<(nth ws k).tags.length) (j1:j<(nth ws k).tags.length) (hl:(nth ws k).whr.length=(nth ws k).tags.length) (out:List World) (ho:out.length≤1000000):
 eO true [0,1,5,8,9,12] 4 (exS aO K.fF ⟨[.und,.und,I i,I j,I t,.und,.bp 1 0,.bp 2 0,.und,.und,.ref 3 0 out.length,I k,.und],exH m ws out⟩)=
  some ⟨[.und,.und,I i,I j,I t,.und,.bp 1 0,.bp 2 0,.und,.und,.ref 3 0 (yx i j t (nth ws k) out).length,I (k+1),.und],exH m ws (yx i j t (nth ws k) out)⟩:=by
 have c1:=mc (nth ws k) hs
 have mt:=RL (nth (nth ws k).whr i) (nth (nth ws k).whr j) t (hs.2.2 _ (ae (by omega)))
 have r1:=FC (nth (nth ws k).whr i) t (hs.2.2 _ (ae (by omega)))
 have r2:=FC (nth (nth ws k).whr j) t (hs.2.2 _ (ae (by omega)))
 unfold yx s5 Hd
 have n1:∀w,nth ((nth ws k).whr.set i w) j=nth (nth ws k).whr j:=fun w=>by rw[s0 _ _ (by omega),if_neg (fun e=>hij e.symm)]
 generalize hx:nth ws k=x at*
 obtain⟨tags,whr⟩:=x
 obtain⟨s1,s2,s3⟩:=hs
 simp only at*
 generalize hwi:nth whr i=wi at*
 generalize hwj:nth whr j=wj at*
 generalize lQ wi t=ri at*
 obtain⟨⟨t1,f1⟩,e1⟩:=ri
 generalize lQ wj t=rj at*
 obtain⟨⟨t2,f2⟩,e2⟩:=rj
 obtain⟨ti,fi⟩:=wi
 obtain⟨tj,fj⟩:=wj
 simp only at*
 cases hm:MA ⟨ti,fi⟩ ⟨tj,fj⟩ t with
 | true=>
   rw[hm]at mt
   simp (disch:=omega) only[go_sem,K.fF,↓reduceIte,exH,hx,hwi,hwj,n1,c1,mt,r1,r2,Nat.reduceAdd,Nat.reduceSub]
 | false=>
   rw[hm]at mt
   simp (disch:=omega) only[go_sem,K.fF,↓reduceIte,exH,hx,hwi,hwj,n1,c1,mt,r1,r2,Nat.reduceAdd,Nat.reduceSub,Bool.false_eq_true]
theorem rH(w:Wh)(t:Int):(lQ w t).1.frm=w.frm:=by unfold lQ;split<;>rfl
theorem MC{i j:Nat}{t:Int}{x:World}(h:x.sz)(hi:i<x.whr.length)(hj:j<x.whr.length):(s5 i j t x).sz:=by
 obtain⟨s1,s2,s3⟩:=h
 refine⟨by simpa [s5,Hd]using s1,by simpa [s5]using s2,fun w hw=>?_⟩
 simp only[s5]at hw
 rcases List.mem_or_eq_of_mem_set hw with hw | rfl
 · rcases List.mem_or_eq_of_mem_set hw with hw | rfl
   · exact s3 w hw
   · rw[rH];exact s3 _ (ae hi)
 · rw[rH];exact s3 _ (ae hj)
theorem yy{ws:List World}(h:∀x∈ws,x.sz){i j:Nat}{t:Int}(hi:∀k,k<ws.length→i<(nth ws k).whr.length)(hj:∀k,k<ws.length→j<(nth ws k).whr.length):∀k,k≤ws.length→∀x∈iq i j t ws k,x.sz
 | 0,_,x,hx=>h x hx
 | k+1,hk,x,hx=>by
   simp only[iq,yx]at hx
   split at hx
   · rcases List.mem_append.1 hx with hx | hx
     · exact yy h hi hj k (by omega) x hx
     · rw[List.mem_singleton.1 hx];exact MC (h _ (ae (by omega))) (hi k (by omega)) (hj k (by omega))
   · exact yy h hi hj k (by omega) x hx
theorem Hf{m:aT}(h:m.ok)(b:Bel)(hs:b.sz)(i j t:Int):
 aO 0 N.bk [.t m.e,.t b.e,I i,I j,I t] []=some (.tup [.t (mV m b i j t).1.e,I (mV m b i j t).2],[]):=by
 refine ay K.lE rfl ?_
 have cb:=vm b hs
 have cb1:=D8 b hs
 have vb:=JB h b hs
 unfold mV
 cases hb:qi m b with
 | false=>
   rw[hb]at vb
   obtain⟨ws⟩:=b
   simp (disch:=omega) only[go_sem,K.bk,↓reduceIte,cb,vb,Nat.reduceAdd,Nat.reduceSub]
 | true=>
   rw[hb]at vb
   obtain⟨w1,w2,f1,f2,w5⟩:=fI hb
   obtain⟨ws⟩:=b
   obtain⟨s1,s2⟩:=hs
   simp only at s1 s2 w1 w2 w5 f1 f2 cb cb1 vb ⊢
   have g0:(ws.map World.e)[0]?=some (nth ws 0).e:=cZ _ (by omega)
   have wl:∀k,k<ws.length→(nth ws k).tags.length=(nth ws 0).tags.length∧(nth ws k).whr.length=(nth ws 0).tags.length:=fun k hk=>by
    obtain⟨q1,q2, -⟩:=gC (w5 k hk)
    exact⟨q1,q2⟩
   generalize hx:nth ws 0=x at*
   obtain⟨first,whr⟩:=x
   simp only at f1 f2 wl g0 ⊢
   rw[if_neg (by simp)]
   by_cases c1:i<0
   · rw[if_pos (by omega)]
     simp (disch:=omega) only[go_sem,K.bk,↓reduceIte,cb,vb,hx,g0,c1,Nat.reduceAdd,Nat.reduceSub]
   · by_cases c2:(first.length:Int)≤i
     · rw[if_pos (by omega)]
       simp (disch:=omega) only[go_sem,K.bk,↓reduceIte,cb,vb,hx,g0,c1,c2,Nat.reduceAdd,Nat.reduceSub]
     · by_cases c3:j<0
       · rw[if_pos (by omega)]
         simp (disch:=omega) only[go_sem,K.bk,↓reduceIte,cb,vb,hx,g0,c1,c2,c3,Nat.reduceAdd,Nat.reduceSub]
       · by_cases c4:(first.length:Int)≤j
         · rw[if_pos (by omega)]
           simp (disch:=omega) only[go_sem,K.bk,↓reduceIte,cb,vb,hx,g0,c1,c2,c3,c4,Nat.reduceAdd,Nat.reduceSub]
         · by_cases c5:i=j
           · rw[if_pos (by omega)]
             simp (disch:=omega) only[go_sem,K.bk,↓reduceIte,cb,vb,hx,g0,c1,c2,c3,c4,c5,Nat.reduceAdd,Nat.reduceSub]
           · rw[if_neg (by omega)]
             by_cases ct:inT t
             · have ct':=ct
               unfold inT at ct'
               rw[if_neg (fun h=>h ct)]
               obtain⟨i',rfl⟩:=Int.eq_ofNat_of_zero_le (show 0≤i by omega)
               obtain⟨j',rfl⟩:=Int.eq_ofNat_of_zero_le (show 0≤j by omega)
               simp only[Int.toNat_natCast]
               have ln:=rG i' j' t ws
               have loop:∀a b c d e f:D,exS aO K.ox ⟨[a,b,I i',I j',I t,c,.bp 1 0,.bp 2 0,d,e,.ref 3 0 ws.length,I 0,f],exH m ws ws⟩=
                some (.exit 0,⟨[.und,.und,I i',I j',I t,.und,.bp 1 0,.bp 2 0,.und,.und,.ref 3 0 (iq i' j' t ws ws.length).length,I ws.length,.und],exH m ws (iq i' j' t ws ws.length)⟩):=by
                intro a b c d e f
                refine cE (fun k=>⟨[.und,.und,I i',I j',I t,.und,.bp 1 0,.bp 2 0,.und,.und,.ref 3 0 (iq i' j' t ws k).length,I k,.und],exH m ws (iq i' j' t ws k)⟩) ws.length rfl ?_ ?_ (by simp)
                · intro k hk
                  obtain⟨q1,q2⟩:=wl k hk
                  have:=ln k
                  exact He m ws (by omega) i' j' (by omega) t k hk (s2 _ (ae hk)) (by omega) (by omega) (by omega) _ (by omega)
                · have:=ln ws.length
                  generalize iq i' j' t ws ws.length=L at*
                  simp (disch:=omega) only[go_sem,K.fF,↓reduceIte,exH,Nat.reduceAdd,Nat.reduceSub]
               have ln:=ln ws.length
               have sz:=yy (t:=t) s2 (i:=i') (j:=j') (fun k hk=>by obtain⟨q1,q2⟩:=wl k hk;omega) (fun k hk=>by obtain⟨q1,q2⟩:=wl k hk;omega) ws.length (Nat.le_refl _)
               have ty:=RQ (iq i' j' t ws ws.length) (by omega) (by omega) sz
               generalize iq i' j' t ws ws.length=L at*
               generalize m6 L=Z at*
               simp only[exH]at loop
               by_cases c6:24<Z.length
               · simp (disch:=omega) only[go_sem,K.bk,↓reduceIte,cb,cb1,vb,hx,g0,c1,c2,c3,c4,c5,c6,loop,ty,Nat.reduceAdd,Nat.reduceSub]
               · simp (disch:=omega) only[go_sem,K.bk,↓reduceIte,cb,cb1,vb,hx,g0,c1,c2,c3,c4,c5,c6,loop,ty,Nat.reduceAdd,Nat.reduceSub]
             · rw[if_pos ct]
               unfold inT at ct
               by_cases c6:t<0
               · simp (disch:=omega) only[go_sem,K.bk,↓reduceIte,cb,vb,hx,g0,c1,c2,c3,c4,c5,c6,Nat.reduceAdd,Nat.reduceSub]
               · simp (disch:=omega) only[go_sem,K.bk,↓reduceIte,cb,vb,hx,g0,c1,c2,c3,c4,c5,c6,Nat.reduceAdd,Nat.reduceSub]
def p4:Nat→List Int
 | 0=>[]
 | k+1=>p4 k++[3+(k:Int)*2]
def aB.lk(d:aB)(n:Int):Nat→List Int×aB
 | 0=>([],d)
 | k+1=>((d.lk n k).1++[((d.lk n k).2.next n).1],((d.lk n k).2.next n).2)
theorem kj:∀k,(p4 k).length=k
 | 0=>rfl
 | k+1=>by simp[p4,kj k]
theorem aB.jO(d:aB)(n:Int):∀k,(d.lk n k).1.length=k
 | 0=>rfl
 | k+1=>by simp[aB.lk,d.jO n k]
theorem aB.ny{d:aB}(h:d.dn)(n:Int):∀k,(d.lk n k).2.dn
 | 0=>h
 | k+1=>aB.aV (aB.ny h n k) n
structure BSt where
 b:Bel
 t:Int
 d:aB
def aB.km(m:aT)(n:Int)(s:BSt):BSt:=
 let a:=s.d.next 60
 let c:=a.2.next 3
 if c.1=0 then
  let i:=c.2.next n
  let j:=i.2.next n
  let r:=mV m s.b i.1 j.1 (s.t+a.1)
  ⟨if r.2=0 then r.1 else s.b,s.t+a.1,j.2⟩
 else if c.1=1 then
  let g:=c.2.next n
  let l:=g.2.kX m.places.length
  let e:=l.2.next 9
  let r:=qU m s.b (3+2*g.1) l.1 (s.t+a.1) (s.t+a.1+e.1)
  ⟨if r.2=0 then r.1 else s.b,s.t+a.1,e.2⟩
 else
  let g:=c.2.next n
  let l:=g.2.kX m.places.length
  let e:=l.2.next 40
  let r:=qV m s.b (3+2*g.1) l.1 (s.t+a.1) (s.t+a.1+50) e.1
  ⟨if r.2=0 then r.1 else s.b,s.t+a.1,e.2⟩
def aB.vo(m:aT)(n:Int)(s:BSt):Nat→BSt
 | 0=>s
 | k+1=>aB.km m n (aB.vo m n s k)
def aB.oa(d:aB):Nat:=(1+(d.next 3).1).toNat
def aB.lT(d:aB)(m:aT):List Int×aB:=(d.next 3).2.lk m.places.length d.oa
def aB.H3(d:aB)(m:aT):BSt:=⟨(rF m (p4 d.oa) (d.lT m).1 ((d.lT m).2.next 100).1).1,100,(((d.lT m).2.next 100).2.next 5).2⟩
def aB.JZ(d:aB)(m:aT):Nat:=(((d.lT m).2.next 100).2.next 5).1.toNat
def aB.ZK(d:aB)(m:aT):BSt:=aB.vo m d.oa (d.H3 m) (d.JZ m)
def aB.qW(d:aB)(m:aT):Bel×aB:=((d.ZK m).b,(d.ZK m).d)
structure WOk(m:aT)(N:Nat)(x:World):Prop where
 tg:x.tags.length=N
 wh:x.whr.length=N
 fr:∀w∈x.whr,w.frm.length=m.places.length
 ti:∀w∈x.whr,inT w.time
structure BOk(m:aT)(N:Nat)(b:Bel):Prop where
 w1:1≤b.worlds.length
 w2:b.worlds.length≤24
 n1:1≤N
 n2:N≤12
 ws:∀x∈b.worlds,WOk m N x
theorem WOk.sz{m:aT}{N:Nat}{x:World}(h:WOk m N x)(hm:m.ok)(hn:N≤12):x.sz:=by
 have np:=hm.np
 obtain⟨t1,t2,t3, -⟩:=h
 exact⟨by omega,by omega,fun w hw=>by rw[t3 w hw];omega⟩
theorem BOk.sz{m:aT}{N:Nat}{b:Bel}(h:BOk m N b)(hm:m.ok):b.sz:=
 ⟨by have:=h.w2;omega,fun x hx=>(h.ws x hx).sz hm h.n2⟩
theorem AS{m:aT}{n:Int}{s:BSt}(h:s.d.dn):(aB.km m n s).d.dn:=by
 unfold aB.km
 simp only
 have l1:=aB.aV h 60
 generalize s.d.next 60=a at*
 obtain⟨a1,d1⟩:=a
 simp only at l1 ⊢
 have l2:=aB.aV l1 3
 generalize d1.next 3=c at*
 obtain⟨c1,d2⟩:=c
 simp only at l2 ⊢
 split
 · exact aB.aV (aB.aV l2 n) n
 · split
   · exact aB.aV (aB.kH (aB.aV l2 n) _) 9
   · exact aB.aV (aB.kH (aB.aV l2 n) _) 40
abbrev blH(m:aT)(p1 p2:Bool)(tags starts:List Int)(s:BSt):ai:=[s.d.obj,.box (af m),.box [.nil],.arr 1 p1 0 (ints tags),.arr 1 p2 0 (ints starts),.box [.t (.sl (s.b.worlds.map World.e))]]
theorem J0{m:aT}(hm:m.ok)(n:Int)(n1:1≤n)(n2:n≤12)(tags starts:List Int)(s:BSt)(hd:s.d.dn)(hb:s.b.sz)(ht:0≤s.t)(ht2:s.t≤1000000)(k:Nat)(hk:k≤100)(p1 p2:Bool):
 eO true [1,5,6,7,11,12,13,14,15,16,17] 6 (exS aO K.bz ⟨[.bp 0 0,.und,.bp 1 0,.bp 2 0,I n,.und,.und,.und,.bp 5 0,I s.t,I (k+1),.und,.und,.und,.und,.und,.und,.und],blH m p1 p2 tags starts s⟩)=
 some ⟨[.bp 0 0,.und,.bp 1 0,.bp 2 0,I n,.und,.und,.und,.bp 5 0,I (aB.km m n s).t,I k,.und,.und,.und,.und,.und,.und,.und],blH m p1 p2 tags starts (aB.km m n s)⟩:=by
 obtain⟨b,t,d⟩:=s
 simp only at hd hb ht ht2
 unfold aB.km
 simp only
 have np:=hm.np
 have h1:=fN d 60 (by omega) hd
 have l1:=aB.aV hd 60
 have a0:=d.dA 60
 have a9:=d.dB (n:=60) (by omega)
 generalize d.next 60=a at*
 obtain⟨x1,d1⟩:=a
 simp only at h1 l1 a0 a9 ⊢
 have h2:=fN d1 3 (by omega) l1
 have l2:=aB.aV l1 3
 have c0:=d1.dA 3
 have c9:=d1.dB (n:=3) (by omega)
 generalize d1.next 3=c at*
 obtain⟨x2,d2⟩:=c
 simp only at h2 l2 c0 c9 ⊢
 have h3:=fN d2 n (by omega) l2
 have l3:=aB.aV l2 n
 have g0:=d2.dA n
 have g9:=d2.dB (n:=n) n1
 generalize d2.next n=g at*
 obtain⟨x3,d3⟩:=g
 simp only at h3 l3 g0 g9 ⊢
 by_cases e0:x2=0
 · simp only[if_pos e0]
   have h4:=fN d3 n (by omega) l3
   generalize d3.next n=g at*
   obtain⟨x4,d4⟩:=g
   simp only at h4 ⊢
   have ex:=Hf hm b hb x3 x4 (t+x1)
   generalize mV m b x3 x4 (t+x1)=r at*
   obtain⟨⟨ws'⟩,er⟩:=r
   obtain⟨ws⟩:=b
   simp only at ex ⊢
   subst e0
   by_cases e:er=0
   · simp (disch:=omega) only[go_sem,K.bz,↓reduceIte,blH,h1,h2,h3,h4,ex,e,Nat.reduceAdd,Nat.reduceSub]
   · simp (disch:=omega) only[go_sem,K.bz,↓reduceIte,blH,h1,h2,h3,h4,ex,e,Nat.reduceAdd,Nat.reduceSub]
 · simp only[if_neg e0]
   have h4:=I5 d3 m.places.length (by omega) l3
   have l4:=aB.kH l3 m.places.length
   have ln:=d3.uc m.places.length
   generalize d3.kX m.places.length=q at*
   obtain⟨l,d4⟩:=q
   simp only at h4 l4 ln ⊢
   by_cases e1:x2=1
   · simp only[if_pos e1]
     have h5:=fN d4 9 (by omega) l4
     have f0:=d4.dA 9
     have f9:=d4.dB (n:=9) (by omega)
     generalize d4.next 9=g at*
     obtain⟨x5,d5⟩:=g
     simp only at h5 f0 f9 ⊢
     have ex:=JU hm b hb (3+2*x3) l (by omega) (t+x1) (t+x1+x5)
     generalize qU m b (3+2*x3) l (t+x1) (t+x1+x5)=r at*
     obtain⟨⟨ws'⟩,er⟩:=r
     obtain⟨ws⟩:=b
     simp only at ex ⊢
     subst e1
     by_cases e:er=0
     · simp (disch:=omega) only[go_sem,K.bz,↓reduceIte,blH,h1,h2,h3,h4,h5,ex,e,Nat.reduceAdd,Nat.reduceSub]
     · simp (disch:=omega) only[go_sem,K.bz,↓reduceIte,blH,h1,h2,h3,h4,h5,ex,e,Nat.reduceAdd,Nat.reduceSub]
   · simp only[if_neg e1]
     have h5:=fN d4 40 (by omega) l4
     have f0:=d4.dA 40
     have f9:=d4.dB (n:=40) (by omega)
     generalize d4.next 40=g at*
     obtain⟨x5,d5⟩:=g
     simp only at h5 f0 f9 ⊢
     have ex:=JV hm b hb (3+2*x3) l (by omega) (t+x1) (t+x1+50) x5
     generalize qV m b (3+2*x3) l (t+x1) (t+x1+50) x5=r at*
     obtain⟨⟨ws'⟩,er⟩:=r
     obtain⟨ws⟩:=b
     simp only at ex ⊢
     by_cases e:er=0
     · simp (disch:=omega) only[go_sem,K.bz,↓reduceIte,blH,h1,h2,h3,h4,h5,ex,e,e0,e1,Nat.reduceAdd,Nat.reduceSub]
     · simp (disch:=omega) only[go_sem,K.bz,↓reduceIte,blH,h1,h2,h3,h4,h5,ex,e,e0,e1,Nat.reduceAdd,Nat.reduceSub]
theorem CG{m:aT}(hm:m.ok){p t:Int}(p0:0≤p)(p1:p<m.places.length)(ht:inT t):(fG m p t).2=0∧(fG m p t).1.frm.length=m.places.length:=by
 unfold fG
 rw[if_neg (by omega),if_pos ht]
 refine⟨rfl,?_⟩
 exact kI hm t ht none (fun l h=>by cases h) (by simp) (ve (vf _) ht.1 (by have:=ht.2;omega))
theorem J1{m:aT}{p t:Int}(ht:inT t):inT (fG m p t).1.time:=by
 unfold fG
 split
 · unfold inT;simp
 · exact ht
theorem RR{m:aT}(w:Wh)(l:List Int)(a b:Int)(hw:inT w.time):inT (yW m w l a b).1.time:=by
 unfold yW
 split
 · exact hw
 · rename_i h
   have h0:j9 m w l a b=0:=by simpa using h
   obtain⟨v1,v2,v3,v4,v5,v6⟩:=mb h0
   split
   · exact hw
   · split
     · exact v5
     · exact hw
theorem RS{m:aT}(w:Wh)(l:List Int)(a b bl:Int)(hw:inT w.time):inT (zG m w l a b bl).1.time:=by
 unfold zG
 split
 · exact hw
 · rename_i h
   have h0:j9 m w l a b=0:=by simpa using h
   obtain⟨v1,v2,v3,v4,v5,v6⟩:=mb h0
   split
   · exact hw
   · split
     · exact hw
     · split
       · exact hw
       · exact v5
theorem MD{a b:Wh}(ha:inT a.time)(hb:inT b.time):inT (gW a b).1.time:=by
 unfold gW
 split
 · unfold inT at *;simp only;omega
 · unfold inT;simp
theorem CH{w:Wh}{t:Int}(h:inT w.time):inT (lQ w t).1.time:=by
 unfold lQ
 split
 · exact h
 · unfold inT at *;simp only;omega
theorem FZ(a b:List Wh)(ha:∀w∈a,inT w.time)(hb:∀w∈b,inT w.time):∀p,p≤a.length→p≤b.length→∀w∈iN a b p,inT w.time
 | 0,_,_,w,hw=>ha w hw
 | p+1,h1,h2,w,hw=>by
   simp only[iN]at hw
   rcases List.mem_or_eq_of_mem_set hw with hw | rfl
   · exact FZ a b ha hb p (by omega) (by omega) w hw
   · exact MD (ha _ (ae (by omega))) (hb _ (ae (by omega)))
theorem ME{m:aT}(hm:m.ok)(w:Wh)(l:List Int)(a b:Int)(hw:w.frm.length=m.places.length):(yW m w l a b).1.frm.length=m.places.length:=by
 unfold yW
 split
 · exact hw
 · rename_i h
   have h0:j9 m w l a b=0:=by simpa using h
   obtain⟨v1,v2,v3,v4,v5,v6⟩:=mb h0
   obtain⟨w1,w2,w3,w4⟩:=bF v1
   have hb:bnd w.frm:=fun x hx=>j8 (w3 x hx)
   split
   · exact hw
   · split
     · refine kI hm a v4 none (fun l h=>by cases h) (pK _ _ _ _ _) (AJ hb _ _ ?_ _ (Nat.le_refl _))
       intro p hp
       obtain⟨j,hj⟩:=List.mem_iff_getElem?.1 hp
       have hjl:=(List.getElem?_eq_some_iff.1 hj).1
       obtain⟨q1,q2, -⟩:=pJ v3 hjl
       rw[bA hj]at q1 q2
       omega
     · exact hw
theorem MF{m:aT}(hm:m.ok)(w:Wh)(l:List Int)(a b bl:Int)(hw:w.frm.length=m.places.length):(zG m w l a b bl).1.frm.length=m.places.length:=by
 unfold zG
 split
 · exact hw
 · rename_i h
   have h0:j9 m w l a b=0:=by simpa using h
   obtain⟨v1,v2,v3,v4,v5,v6⟩:=mb h0
   obtain⟨w1,w2,w3,w4⟩:=bF v1
   have hb:bnd w.frm:=fun x hx=>j8 (w3 x hx)
   split
   · exact hw
   · split
     · exact hw
     · split
       · exact hw
       · rename_i h1 h2 h3
         have hlen:=AI v3
         have np:=hm.np
         have h1:inT bl:=by simpa using h1
         unfold inT at v4 v5 w2 h1
         have t1:inT (b-bl):=by unfold inT;omega
         have hi:∀s,some l=some s→s≠[]∧s.length≤64:=by
          intro s hs;cases hs;exact⟨v2,by omega⟩
         have ln:=uh w.frm l l.length
         have lb:=AK hb l l.length
         exact kI hm b v5 none (fun l h=>by cases h) (kI hm _ t1 _ hi (by omega) lb) (zF hm _ t1 _ hi (by omega) lb)
theorem J2{m:aT}{N:Nat}{tag:Int}{x:World}{w:Wh}(hx:WOk m N x)(hw:w.frm.length=m.places.length)(hw2:inT w.time):WOk m N (Eh tag x w):=by
 obtain⟨t1,t2,t3,t4⟩:=hx
 refine⟨t1,by simpa [Eh]using t2,fun y hy=>?_,fun y hy=>?_⟩
 · simp only[Eh]at hy
   rcases List.mem_or_eq_of_mem_set hy with hy | rfl
   · exact t3 y hy
   · exact hw
 · simp only[Eh]at hy
   rcases List.mem_or_eq_of_mem_set hy with hy | rfl
   · exact t4 y hy
   · exact hw2
theorem El{m:aT}(hm:m.ok){N:Nat}{b:Bel}(hb:BOk m N b)(tag:Int)(l:List Int)(a c:Int):BOk m N (if(qU m b tag l a c).2=0 then(qU m b tag l a c).1 else b):=by
 split
 · rename_i h0
   unfold qU at h0 ⊢
   by_cases e0:mT m b tag=0
   · simp only[e0,ne_eq,not_true_eq_false,if_false]at h0 ⊢
     obtain⟨_,bb⟩:=Ej e0
     cases hf:(List.range b.worlds.length).find? (CC m tag l a c b.worlds)with
     | some i=>simp only[hf];exact hb
     | none=>
       simp only[hf]at h0 ⊢
       split at h0
       · simp at h0
       · rename_i hl
         rw[if_neg hl]
         have ln:=ux m tag l a c b.worlds b.worlds.length
         refine⟨by simp only;omega,by have:=hb.w2;simp only;omega,hb.n1,hb.n2,?_⟩
         have key:∀j,j≤b.worlds.length→∀x∈mU m tag l a c b.worlds j,WOk m N x:=by
          intro j
          induction j with
          | zero=>intro _ x hx;simp[mU]at hx
          | succ j ih=>
            intro hj x hx
            have wj:=hb.ws _ (ae (l:=b.worlds) (j:=j) (by omega))
            obtain⟨b1,b2⟩:=bb j (by omega)
            simp only[mU,CA]at hx
            split at hx
            · exact ih (by omega) x hx
            · rcases List.mem_append.1 hx with hx | hx
              · exact ih (by omega) x hx
              · rw[List.mem_singleton.1 hx]
                split
                · exact J2 wj (ME hm _ l a c (wj.fr _ (ae (by omega)))) (RR _ l a c (wj.ti _ (ae (by omega))))
                · exact wj
         exact key _ (Nat.le_refl _)
   · rw[if_pos e0]at h0 ⊢
     exact hb
 · exact hb
theorem Em{m:aT}(hm:m.ok){N:Nat}{b:Bel}(hb:BOk m N b)(tag:Int)(l:List Int)(a c bl:Int):BOk m N (if(qV m b tag l a c bl).2=0 then(qV m b tag l a c bl).1 else b):=by
 split
 · rename_i h0
   unfold qV at h0 ⊢
   by_cases e0:mT m b tag=0
   · simp only[e0,ne_eq,not_true_eq_false,if_false]at h0 ⊢
     obtain⟨_,bb⟩:=Ej e0
     cases hf:(List.range b.worlds.length).find? (CE m tag l a c bl b.worlds)with
     | some i=>simp only[hf];exact hb
     | none=>
       simp only[hf]
       have ln:=uy m tag l a c bl b.worlds b.worlds.length
       refine⟨by have:=hb.w1;simp only;omega,by have:=hb.w2;simp only;omega,hb.n1,hb.n2,?_⟩
       have key:∀j,j≤b.worlds.length→∀x∈oI m tag l a c bl b.worlds j,WOk m N x:=by
        intro j
        induction j with
        | zero=>intro _ x hx;simp[oI]at hx
        | succ j ih=>
          intro hj x hx
          have wj:=hb.ws _ (ae (l:=b.worlds) (j:=j) (by omega))
          obtain⟨b1,b2⟩:=bb j (by omega)
          simp only[oI,Ei]at hx
          rcases List.mem_append.1 hx with hx | hx
          · exact ih (by omega) x hx
          · rw[List.mem_singleton.1 hx]
            split
            · exact J2 wj (MF hm _ l a c bl (wj.fr _ (ae (by omega)))) (RS _ l a c bl (wj.ti _ (ae (by omega))))
            · exact wj
       exact key _ (Nat.le_refl _)
   · rw[if_pos e0]at h0 ⊢
     exact hb
 · exact hb
theorem J3{m:aT}{a b:Wh}(ha:a.frm.length=m.places.length)(hb:b.frm.length=m.places.length):(gW a b).1.frm.length=m.places.length:=by
 unfold gW
 rw[if_pos (by omega)]
 simp only[kT];exact ha
theorem F3{m:aT}(a b:List Wh)(ha:∀w∈a,w.frm.length=m.places.length)(hb:∀w∈b,w.frm.length=m.places.length):∀p,p≤a.length→p≤b.length→∀w∈iN a b p,w.frm.length=m.places.length
 | 0,_,_,w,hw=>ha w hw
 | p+1,h1,h2,w,hw=>by
   simp only[iN]at hw
   rcases List.mem_or_eq_of_mem_set hw with hw | rfl
   · exact F3 a b ha hb p (by omega) (by omega) w hw
   · exact J3 (ha _ (ae (by omega))) (hb _ (ae (by omega)))
theorem Hg{m:aT}{N:Nat}{out:List World}{x:World}(ho:∀y∈out,WOk m N y)(hx:WOk m N x):∀y∈gL out x,WOk m N y:=by
 intro y hy
 unfold gL at hy
 split at hy
 · rename_i h
   rcases List.mem_or_eq_of_mem_set hy with hy | rfl
   · exact ho y hy
   · obtain⟨s1,s2,s3,s4⟩:=ho _ (ae h.1)
     refine⟨hx.tg,?_,F3 _ _ s3 hx.fr _ (Nat.min_le_left _ _) (Nat.min_le_right _ _),FZ _ _ s4 hx.ti _ (Nat.min_le_left _ _) (Nat.min_le_right _ _)⟩
     show(iN _ _ _).length=_
     rw[gK];exact s2
 · rcases List.mem_append.1 hy with hy | hy
   · rcases List.mem_append.1 hy with hy | hy
     · exact ho y (List.mem_of_mem_take hy)
     · rw[List.mem_singleton.1 hy];exact hx
   · exact ho y (List.mem_of_mem_drop hy)
theorem zS{m:aT}{N:Nat}{l:List World}(hl:∀x∈l,WOk m N x):∀j,j≤l.length→∀y∈oJ l j,WOk m N y
 | 0,_,y,hy=>by simp[oJ]at hy
 | j+1,h,y,hy=>Hg (zS hl j (by omega)) (hl _ (ae (by omega))) y hy
theorem Hh{m:aT}{N:Nat}{i j:Nat}{t:Int}{x:World}(h:WOk m N x)(hi:i<N)(hj:j<N):WOk m N (s5 i j t x):=by
 obtain⟨s1,s2,s3,s4⟩:=h
 refine⟨by simpa [s5,Hd]using s1,by simpa [s5]using s2,fun w hw=>?_,fun w hw=>?_⟩
 · simp only[s5]at hw
   rcases List.mem_or_eq_of_mem_set hw with hw | rfl
   · rcases List.mem_or_eq_of_mem_set hw with hw | rfl
     · exact s3 w hw
     · rw[rH];exact s3 _ (ae (by omega))
   · rw[rH];exact s3 _ (ae (by omega))
 · simp only[s5]at hw
   rcases List.mem_or_eq_of_mem_set hw with hw | rfl
   · rcases List.mem_or_eq_of_mem_set hw with hw | rfl
     · exact s4 w hw
     · exact CH (s4 _ (ae (by omega)))
   · exact CH (s4 _ (ae (by omega)))
theorem s6{m:aT}{N:Nat}{ws:List World}(h:∀x∈ws,WOk m N x){i j:Nat}{t:Int}(hi:i<N)(hj:j<N):∀k,k≤ws.length→∀x∈iq i j t ws k,WOk m N x
 | 0,_,x,hx=>h x hx
 | k+1,hk,x,hx=>by
   simp only[iq,yx]at hx
   split at hx
   · rcases List.mem_append.1 hx with hx | hx
     · exact s6 h hi hj k (by omega) x hx
     · rw[List.mem_singleton.1 hx];exact Hh (h _ (ae (by omega))) hi hj
   · exact s6 h hi hj k (by omega) x hx
theorem CI{m:aT}{N:Nat}{b:Bel}(hb:BOk m N b)(i j t:Int):BOk m N (if(mV m b i j t).2=0 then(mV m b i j t).1 else b):=by
 split
 · rename_i h0
   unfold mV at h0 ⊢
   split at h0
   · simp at h0
   · rename_i c1
     rw[if_neg c1]
     split at h0
     · simp at h0
     · rename_i c2
       rw[if_neg c2]
       split at h0
       · simp at h0
       · rename_i c3
         rw[if_neg c3]
         split at h0
         · simp at h0
         · rename_i c4
           rw[if_neg c4]
           have t0:=(hb.ws _ (ae (l:=b.worlds) (j:=0) (by have:=hb.w1;omega))).tg
           have ln:=rG i.toNat j.toNat t b.worlds b.worlds.length
           have w1:=hb.w1
           refine⟨?_,by simp only;omega,hb.n1,hb.n2,?_⟩
           · simp only[m6]
             cases hn:(iq i.toNat j.toNat t b.worlds b.worlds.length).length with
             | zero=>omega
             | succ n=>exact(uA _ _).2.2
           · exact zS (s6 hb.ws (by omega) (by omega) _ (Nat.le_refl _)) _ (Nat.le_refl _)
 · exact hb
theorem CJ{m:aT}(hm:m.ok){N:Nat}{n:Int}{s:BSt}(hb:BOk m N s.b):BOk m N (aB.km m n s).b:=by
 unfold aB.km
 simp only
 split
 · exact CI hb _ _ _
 · split
   · exact El hm hb _ _ _ _
   · exact Em hm hb _ _ _ _ _
theorem CK{m:aT}{n:Int}{s:BSt}:s.t≤(aB.km m n s).t∧(aB.km m n s).t≤s.t+60:=by
 have h1:=s.d.dA 60
 have h2:=s.d.dB (n:=60) (by omega)
 unfold aB.km
 simp only
 split
 · simp only;omega
 · split<;>(simp only;omega)
theorem yz{m:aT}(hm:m.ok){N:Nat}{n:Int}{s:BSt}(hb:BOk m N s.b)(hd:s.d.dn)(ht:s.t=100):∀k,BOk m N (aB.vo m n s k).b∧(aB.vo m n s k).d.dn∧100≤(aB.vo m n s k).t∧(aB.vo m n s k).t≤100+60*k
 | 0=>⟨hb,hd,by simp[aB.vo,ht],by simp[aB.vo,ht]⟩
 | k+1=>by
   obtain⟨h1,h2,h3,h4⟩:=yz hm hb hd ht k
   have ht:=CK (m:=m) (n:=n) (s:=aB.vo m n s k)
   exact⟨CJ hm h1,AS h2,by simp only[aB.vo];omega,by simp only[aB.vo];omega⟩
theorem wC{n:Nat}(h:n≤3):ew (p4 n)=true:=by
 match n,h with
 | 0,_=>decide
 | 1,_=>decide
 | 2,_=>decide
 | 3,_=>decide
theorem qX(d:aB){n:Int}(hn:1≤n):∀k,∀x∈(d.lk n k).1,0≤x∧x<n
 | 0,x,hx=>by simp[aB.lk]at hx
 | k+1,x,hx=>by
   simp only[aB.lk,List.mem_append,List.mem_singleton]at hx
   rcases hx with hx | rfl
   · exact qX d hn k x hx
   · exact⟨aB.dA _ _,aB.dB _ hn⟩
theorem yA(d:aB):1≤d.oa∧d.oa≤3:=by
 have h1:=d.dA 3
 have h2:=d.dB (n:=3) (by omega)
 unfold aB.oa;omega
theorem AT{m:aT}(hm:m.ok)(h1:1≤m.places.length)(d:aB):
 (rF m (p4 d.oa) (d.lT m).1 ((d.lT m).2.next 100).1)=(⟨[⟨p4 d.oa,gk m (d.lT m).1 ((d.lT m).2.next 100).1 (p4 d.oa).length⟩]⟩,0):=by
 have pb:=yA d
 have tl:=kj d.oa
 have sl:(d.lT m).1.length=d.oa:=aB.jO _ _ _
 have t0:=(d.lT m).2.dA 100
 have t9:=(d.lT m).2.dB (n:=100) (by omega)
 have np:=hm.np
 unfold rF
 rw[if_pos (by omega),if_pos (wC (by omega))]
 have:(List.range (p4 d.oa).length).find? (fun i=> !decide ((fG m (nth (d.lT m).1 i) ((d.lT m).2.next 100).1).2=0))=none:=by
  rw[List.find?_eq_none]
  intro i hi
  have hi:i<(d.lT m).1.length:=by rw[sl,←tl];exact List.mem_range.1 hi
  have:=qX (d.next 3).2 (n:=m.places.length) (by omega) d.oa _ (ae hi)
  have:=(CG hm this.1 this.2 (t:=((d.lT m).2.next 100).1) ⟨by omega,by omega⟩).1
  have e:(fG m (nth (d.lT m).1 i) ((d.lT m).2.next 100).1).2=0:=this
  simp[e]
 rw[this]
theorem CL{m:aT}(hm:m.ok)(h1:1≤m.places.length)(d:aB):BOk m d.oa (d.H3 m).b:=by
 have pb:=yA d
 have tl:=kj d.oa
 have sl:(d.lT m).1.length=d.oa:=aB.jO _ _ _
 have t0:=(d.lT m).2.dA 100
 have t9:=(d.lT m).2.dB (n:=100) (by omega)
 have np:=hm.np
 unfold aB.H3
 rw[AT hm h1]
 refine⟨by simp,by simp,by omega,by omega,fun x hx=>?_⟩
 rw[List.mem_singleton.1 hx]
 refine⟨tl,by simp[tl],fun w hw=>?_,fun w hw=>by
  simp only[gk,List.mem_map,List.mem_range]at hw
  obtain⟨i,hi,rfl⟩:=hw
  exact J1 ⟨by omega,by omega⟩⟩
 simp only[gk,List.mem_map,List.mem_range]at hw
 obtain⟨i,hi,rfl⟩:=hw
 have hi:i<(d.lT m).1.length:=by rw[sl,←tl];exact hi
 have:=qX (d.next 3).2 (n:=m.places.length) (by omega) d.oa _ (ae hi)
 exact(CG hm this.1 this.2 ⟨by omega,by omega⟩).2
theorem J4{m:aT}(hm:m.ok)(h1:1≤m.places.length){d:aB}(hd:d.dn):BOk m d.oa (d.qW m).1∧(d.qW m).2.dn:=by
 have l0:(d.H3 m).d.dn:=aB.aV (aB.aV (aB.ny (aB.aV hd 3) _ _) _) _
 obtain⟨h1,h2, -⟩:=yz hm (CL hm h1 d) l0 rfl (n:=d.oa) (d.JZ m)
 exact⟨h1,h2⟩
theorem J5{m:aT}(hm:m.ok)(d:aB)(hd:d.dn)(n:Nat)(hn:n≤12)(a b c e f g h i j k:D):
 exS aO K.mz ⟨[.bp 0 0,a,.bp 1 0,.bp 2 0,I n,.ref 3 0 0,.ref 4 0 0,I 0,b,c,e,f,g,h,i,j,k,.und],[d.obj,.box (af m),.box [.nil],.arr 1 false 0 [],.arr 1 false 0 []]⟩=
 some (.exit 0,⟨[.bp 0 0,.und,.bp 1 0,.bp 2 0,I n,.ref 3 0 n,.ref 4 0 n,I n,.und,.und,.und,.und,.und,.und,.und,.und,.und,.und],[(d.lk m.places.length n).2.obj,.box (af m),.box [.nil],.arr 1 false 0 (ints (p4 n)),.arr 1 false 0 (ints (d.lk m.places.length n).1)]⟩):=by
 refine cE (fun k=>⟨[.bp 0 0,.und,.bp 1 0,.bp 2 0,I n,.ref 3 0 k,.ref 4 0 k,I k,.und,.und,.und,.und,.und,.und,.und,.und,.und,.und],[(d.lk m.places.length k).2.obj,.box (af m),.box [.nil],.arr 1 false 0 (ints (p4 k)),.arr 1 false 0 (ints (d.lk m.places.length k).1)]⟩) n rfl ?_ ?_ (by simp)
 · intro j hj
   have np:=hm.np
   have tl:=kj j
   have sl:=d.jO m.places.length j
   have lt:=aB.ny hd m.places.length j
   simp only[p4,aB.lk]
   generalize p4 j=ts at*
   generalize d.lk m.places.length j=s at*
   obtain⟨ss,d1⟩:=s
   simp only at sl lt ⊢
   have h1:=fN d1 m.places.length (by omega) lt
   generalize d1.next m.places.length=r at*
   obtain⟨x,d2⟩:=r
   simp only at h1 ⊢
   simp (disch:=omega) only[go_sem,K.iV,↓reduceIte,ints,h1,Nat.reduceAdd,Nat.reduceSub]
 · have tl:=kj n
   have sl:=d.jO m.places.length n
   simp (disch:=omega) only[go_sem,K.iV,↓reduceIte,ints,Nat.reduceAdd,Nat.reduceSub]
theorem J6{m:aT}(hm:m.ok){N:Nat}(n:Int)(n1:1≤n)(n2:n≤12)(tags starts:List Int)(s:BSt)(hd:s.d.dn)(hb:BOk m N s.b)(ht:s.t=100)(p1 p2:Bool)(kk:Nat)(hK:kk≤100):
 lX true [1,5,6,7,11,12,13,14,15,16,17] (exS aO K.bz) ⟨[.bp 0 0,.und,.bp 1 0,.bp 2 0,I n,.und,.und,.und,.bp 5 0,I s.t,I kk,.und,.und,.und,.und,.und,.und,.und],blH m p1 p2 tags starts s⟩=
 some (.exit 2,⟨[.bp 0 0,.und,.bp 1 0,.bp 2 0,I n,.und,.und,.und,.bp 5 0,I (aB.vo m n s kk).t,I 0,.und,.und,.und,.und,.und,.und,.und],blH m p1 p2 tags starts (aB.vo m n s kk)⟩):=by
 have key:=w9 (gc:=true) (dead:=[1,5,6,7,11,12,13,14,15,16,17]) (body:=exS aO K.bz)
  (fun k=>⟨[.bp 0 0,.und,.bp 1 0,.bp 2 0,I n,.und,.und,.und,.bp 5 0,I (aB.vo m n s k).t,I ((kk-k:Nat):Int),.und,.und,.und,.und,.und,.und,.und],blH m p1 p2 tags starts (aB.vo m n s k)⟩)
  (p:=(.exit 2,⟨[.bp 0 0,.und,.bp 1 0,.bp 2 0,I n,.und,.und,.und,.bp 5 0,I (aB.vo m n s kk).t,I 0,.und,.und,.und,.und,.und,.und,.und],blH m p1 p2 tags starts (aB.vo m n s kk)⟩)) kk ?_ ?_
 · exact key
 · intro k hk
   obtain⟨g1,g2,g3,g4⟩:=yz hm (n:=n) hb hd ht k
   have:=J0 hm n n1 n2 tags starts (aB.vo m n s k) g2 (g1.sz hm) (by omega) (by omega) (kk-(k+1)) (by omega) p1 p2
   rw[show(((kk-(k+1):Nat):Int)+1)=((kk-k:Nat):Int)by omega]at this
   exact this
 · refine de ?_ (by simp)
   simp only[Nat.sub_self]
   simp (disch:=omega) only[go_sem,K.bz,↓reduceIte,blH,Nat.reduceAdd,Nat.reduceSub]
theorem J7{m:aT}(hm:m.ok)(h1:1≤m.places.length)(d:aB)(hd:d.dn):aO 0 N.bT [.bp 0 0,.t m.e] [d.obj]=some (.t (d.qW m).1.e,[(d.qW m).2.obj]):=by
 refine ay K.j4 rfl ?_
 have np:=hm.np
 have pb:=yA d
 have eP:(d.oa:Int)=1+(d.next 3).1:=by have:=d.dA 3;unfold aB.oa;omega
 have g0:=CL hm h1 d
 have e0:=AT hm h1 d
 have a1:=fN d 3 (by omega) hd
 have l1:=aB.aV hd 3
 have q1:=fun a b c e f g h i j k=>J5 hm (d.next 3).2 l1 d.oa (by omega) a b c e f g h i j k
 have eS:(d.next 3).2.lk m.places.length d.oa=d.lT m:=rfl
 rw[eS]at q1
 have lS:(d.lT m).2.dn:=aB.ny l1 _ _
 have a2:=fN (d.lT m).2 100 (by omega) lS
 have l2:=aB.aV lS 100
 have a3:=fN ((d.lT m).2.next 100).2 5 (by omega) l2
 have l3:=aB.aV l2 5
 have k0:=((d.lT m).2.next 100).2.dA 5
 have k9:=((d.lT m).2.next 100).2.dB (n:=5) (by omega)
 have eK:(d.JZ m:Int)=(((d.lT m).2.next 100).2.next 5).1:=by unfold aB.JZ;omega
 have st:=Eg hm (p4 d.oa) (d.lT m).1 (by rw[kj];omega) ((d.lT m).2.next 100).1
 have tl:=kj d.oa
 have sl:(d.lT m).1.length=d.oa:=aB.jO _ _ _
 rw[e0]at st
 have b0:d.H3 m=⟨⟨[⟨p4 d.oa,gk m (d.lT m).1 ((d.lT m).2.next 100).1 (p4 d.oa).length⟩]⟩,100,(((d.lT m).2.next 100).2.next 5).2⟩:=by unfold aB.H3;rw[e0]
 have q2:=fun p1 p2=>J6 hm d.oa (by omega) (by omega) (p4 d.oa) (d.lT m).1 (d.H3 m) (by rw[b0];exact l3) g0 rfl p1 p2 (d.JZ m) (by omega)
 have q2:=fun p1 p2 a b c e f g h i j k l=>sN (vs:=[.bp 0 0,a,.bp 1 0,.bp 2 0,I d.oa,b,c,e,.bp 5 0,I 100,I (d.JZ m),f,g,h,i,j,k,l]) (q2 p1 p2)
 have eF:aB.vo m d.oa (d.H3 m) (d.JZ m)=d.ZK m:=rfl
 rw[eF]at q2
 unfold aB.qW
 rw[b0]at q2
 generalize d.ZK m=F at*
 generalize (p4 d.oa)=tags at*
 generalize gk m (d.lT m).1 ((d.lT m).2.next 100).1 tags.length=sw at*
 generalize d.JZ m=kk at*
 generalize (((d.lT m).2.next 100).2.next 5)=z3 at*
 generalize ((d.lT m).2.next 100)=z2 at*
 generalize d.lT m=z1 at*
 generalize d.next 3=z0 at*
 generalize d.oa=n at*
 obtain⟨x3,d3⟩:=z3
 obtain⟨x2,d2⟩:=z2
 obtain⟨ss,d1⟩:=z1
 obtain⟨x0,d0⟩:=z0
 obtain⟨⟨wf⟩,tf,df⟩:=F
 simp only[List.map_cons,List.map_nil,blH]at*
 have q2:∀p1 p2 a b c e f g h i j k l,exS aO K.mA _=_:=q2
 simp (disch:=omega) only[go_sem,K.bT,↓reduceIte,ints,a1,eP.symm,q1,a2,a3,st,eK.symm,tl,sl,q2,Nat.reduceAdd,Nat.reduceSub]
def aB.spread(d:aB)(m:aT)(fl:List Spn):Wh×aB:=
 let p:=d.next m.places.length
 let t:=p.2.next 200
 let s:=WY m fl [p.1] t.1
 let o:=t.2.one 2
 if o.1=true then
  let f:=o.2.acm m
  let a:=f.2.next 100
  let r:=Q8 m fl m f.1 s.1 (s.1.time+a.1)
  if r.2=0 then(r.1,a.2)else(s.1,a.2)
 else(s.1,o.2)
structure Mch where
 kind:Int
 num:Int
 pl:List Int
instance : Dat Mch := ⟨⟨0, 0, []⟩⟩
abbrev Mch.e(x:Mch):T:= .agg [tI x.kind,tI x.num,tL x.pl]
@[go_sem] theorem Xk (l : List Mch) : nG 3 (l.map Mch.e) = true := by cases l <;> rfl
theorem CM{n:Nat}{p q:Nat→Bool}(h:∀k,k<n→p k=q k):gI n p=gI n q:=by
 unfold gI
 congr 1
 refine List.filter_congr fun x hx=>h x (List.mem_range.1 hx)
theorem Hi{n:Nat}{p:Nat→Bool}{x:Int}:x∈gI n p↔∃k:Nat,x=k∧k<n∧p k=true:=by
 unfold gI
 simp only[List.mem_map,List.mem_filter,List.mem_range]
 constructor
 · rintro ⟨k,⟨h1,h2⟩,rfl⟩;exact⟨k,rfl,h1,h2⟩
 · rintro ⟨k,rfl,h1,h2⟩;exact⟨k,⟨h1,h2⟩,rfl⟩
theorem yZ{n:Nat}{p:Nat→Bool}{k:Nat}:(k:Int)∈gI n p↔k<n∧p k=true:=by
 rw[Hi]
 constructor
 · rintro ⟨j,h,h1,h2⟩
   obtain rfl:k=j:=by omega
   exact⟨h1,h2⟩
 · rintro ⟨h1,h2⟩;exact⟨k,rfl,h1,h2⟩
theorem AU(l:List World)(hl:l.length≤4294967296)(f:Nat)(bs:List (List T))(p:World→Bool)(h:∀x,x∈l→aO 0 f (.t x.e::eR bs.length) (aR bs)=some (B (p x),aR bs)):
 aO 0 N.aC [.t (.sl (l.map World.e)),.fn f (eR bs.length)] (aR bs)=
 some (I (match (List.range l.length).find? (fun j=>p (nth l j))with | some j=>(j:Int) | none=> -1),aR bs):=by
 refine ay K.cr rfl ?_
 have loop:∀a b:D,exS aO K.dV ⟨[.t (.sl (l.map World.e)),.fn f (eR bs.length),a,b,I l.length,I 0],aR bs⟩=
  some (match (List.range l.length).find? (fun j=>p (nth l j))with
   | some j=>(.ret,⟨[.t (.sl (l.map World.e)),.fn f (eR bs.length),I j,I j,I l.length,I j],aR bs⟩)
   | none=>(.exit 0,⟨[.t (.sl (l.map World.e)),.fn f (eR bs.length),.und,.und,I l.length,I l.length],aR bs⟩)):=by
  intro a b
  refine cu (fun j=>⟨[.t (.sl (l.map World.e)),.fn f (eR bs.length),.und,.und,I l.length,I j],aR bs⟩) l.length (fun j=>p (nth l j)) _ _ rfl ?_ ?_ ?_ (by simp)
  · intro j hj hp
    have hc:=mi (h _ (ae hj)) rfl
    simp (disch:=omega) only[go_sem,K.bE,↓reduceIte,hc,hp]
  · intro j hj hp
    have hc:=mi (h _ (ae hj)) rfl
    simp (disch:=omega) only[go_sem,K.bE,↓reduceIte,hp,hc]
    simp
  · simp (disch:=omega) only[go_sem,K.bE,↓reduceIte]
 simp (disch:=omega) only[go_sem,K.aC,↓reduceIte,loop]
 cases hf:(List.range l.length).find? (fun j=>p (nth l j))with
 | some j=>simp (disch:=omega) only[go_sem,↓reduceIte]
 | none=>simp (disch:=omega) only[go_sem,↓reduceIte]
theorem F4{α:Type} [Dat α]{l:List α}{p:α→Bool}:((List.range l.length).find? fun j=>p (nth l j)).isSome=l.any p:=by
 rw[List.isSome_find?,Bool.eq_iff_iff,List.any_eq_true,List.any_eq_true]
 constructor
 · rintro ⟨j,hj,h⟩
   exact⟨_,ae (List.mem_range.1 hj),h⟩
 · rintro ⟨x,hx,h⟩
   obtain⟨j,hj⟩:=List.mem_iff_getElem?.1 hx
   exact⟨j,List.mem_range.2 (List.getElem?_eq_some_iff.1 hj).1,by rw[bA hj];exact h⟩
theorem wM(l:List World)(hl:l.length≤4294967296)(f:Nat)(bs:List (List T))(p:World→Bool)(h:∀x,x∈l→aO 0 f (.t x.e::eR bs.length) (aR bs)=some (B (p x),aR bs)):
 aO 0 N.av [.t (.sl (l.map World.e)),.fn f (eR bs.length)] (aR bs)=some (B (l.any p),aR bs):=by
 refine ay K.bZ rfl ?_
 have h:=AU l hl f bs p h
 have hc:=vd aO bs f _ 0 (.sl (l.map World.e)) h rfl
 have e:=F4 (l:=l) (p:=p)
 cases hf:(List.range l.length).find? (fun j=>p (nth l j))with
 | some j=>rw[hf]at e hc;simp (disch:=omega) only[go_sem,K.av,↓reduceIte,←e,hc]
 | none=>rw[hf]at e hc;simp (disch:=omega) only[go_sem,K.av,↓reduceIte,←e,hc,Option.isSome_none]
end Go.Ev
namespace Go.Ev
open Go
variable [Lib] [cm] [bS] [iv] [ir] [lr] [gE] [gF] [jV] [iu] [gA] [fw]
theorem AV(l:List Wh)(hl:l.length≤4294967296)(f:Nat)(bs:List (List T))(p:Wh→Bool)(h:∀x,x∈l→aO 0 f (.t x.e::eR bs.length) (aR bs)=some (B (p x),aR bs)):
 aO 0 N.au [.t (.sl (l.map Wh.e)),.fn f (eR bs.length)] (aR bs)=
 some (I (match (List.range l.length).find? (fun j=>p (nth l j))with | some j=>(j:Int) | none=> -1),aR bs):=by
 refine ay K.bC rfl ?_
 have loop:∀a b:D,exS aO K.cg ⟨[.t (.sl (l.map Wh.e)),.fn f (eR bs.length),a,b,I l.length,I 0],aR bs⟩=
  some (match (List.range l.length).find? (fun j=>p (nth l j))with
   | some j=>(.ret,⟨[.t (.sl (l.map Wh.e)),.fn f (eR bs.length),I j,I j,I l.length,I j],aR bs⟩)
   | none=>(.exit 0,⟨[.t (.sl (l.map Wh.e)),.fn f (eR bs.length),.und,.und,I l.length,I l.length],aR bs⟩)):=by
  intro a b
  refine cu (fun j=>⟨[.t (.sl (l.map Wh.e)),.fn f (eR bs.length),.und,.und,I l.length,I j],aR bs⟩) l.length (fun j=>p (nth l j)) _ _ rfl ?_ ?_ ?_ (by simp)
  · intro j hj hp
    have hc:=mi (h _ (ae hj)) rfl
    simp (disch:=omega) only[go_sem,K.aY,↓reduceIte,hc,hp]
  · intro j hj hp
    have hc:=mi (h _ (ae hj)) rfl
    simp (disch:=omega) only[go_sem,K.aY,↓reduceIte,hp,hc]
    simp
  · simp (disch:=omega) only[go_sem,K.aY,↓reduceIte]
 simp (disch:=omega) only[go_sem,K.au,↓reduceIte,loop]
 cases hf:(List.range l.length).find? (fun j=>p (nth l j))with
 | some j=>simp (disch:=omega) only[go_sem,↓reduceIte]
 | none=>simp (disch:=omega) only[go_sem,↓reduceIte]
theorem qd(l:List Wh)(hl:l.length≤4294967296)(f:Nat)(bs:List (List T))(p:Wh→Bool)(h:∀x,x∈l→aO 0 f (.t x.e::eR bs.length) (aR bs)=some (B (p x),aR bs)):
 aO 0 N.aa [.t (.sl (l.map Wh.e)),.fn f (eR bs.length)] (aR bs)=some (B (l.any p),aR bs):=by
 refine ay K.bB rfl ?_
 have h:=AV l hl f bs p h
 have hc:=vd aO bs f _ 0 (.sl (l.map Wh.e)) h rfl
 have e:=F4 (l:=l) (p:=p)
 cases hf:(List.range l.length).find? (fun j=>p (nth l j))with
 | some j=>rw[hf]at e hc;simp (disch:=omega) only[go_sem,K.aa,↓reduceIte,←e,hc]
 | none=>rw[hf]at e hc;simp (disch:=omega) only[go_sem,K.aa,↓reduceIte,←e,hc,Option.isSome_none]
theorem yB{l:List Int}:ew l=true↔l.Nodup∧∀x∈l,1≤x∧x≤65535:=by
 constructor
 · intro h
   refine⟨iM h,fun x hx=>?_⟩
   simp only[ew,List.all_eq_true,List.mem_range,mN,decide_eq_true_eq]at h
   obtain⟨j,hj⟩:=List.mem_iff_getElem?.1 hx
   have:=h j (List.getElem?_eq_some_iff.1 hj).1
   rw[bA hj]at this
   exact⟨this.1,this.2.1⟩
 · rintro ⟨h1,h2⟩
   simp only[ew,List.all_eq_true,List.mem_range,mN,decide_eq_true_eq]
   intro j hj
   obtain⟨a,b⟩:=h2 _ (ae hj)
   refine⟨a,b,Decidable.byContradiction fun c=>?_⟩
   obtain⟨d,e⟩:=vl (l:=l.take j) (x:=nth l j) (by omega)
   have z:0≤bO (l.take j) (nth l j):=by omega
   generalize bO (l.take j) (nth l j)=k at*
   rw[List.length_take]at d
   have k1:k.toNat<j:=by omega
   have e1:(l.take j)[k.toNat]?=l[k.toNat]?:=List.getElem?_take_of_lt k1
   have e2:l[k.toNat]?=some l[k.toNat]:=List.getElem?_eq_getElem (by omega)
   rw[bA (e1.trans e2),←bA e2]at e
   have n2:=(List.getElem?_inj (by omega:k.toNat<l.length) h1).1 (show l[k.toNat]?=l[j]? by rw[jv (by omega),jv hj,e])
   omega
theorem MG{l:List Int}{lo hi:Int}:Oj l lo hi=true↔l.Pairwise (· < ·)∧∀x∈l,lo≤x∧x≤hi:=by
 have e:Oj l lo hi=true↔∀j,j<l.length→lo≤nth l j∧nth l j≤hi∧(0<j→nth l (j-1)<nth l j):=by
  simp only[Oj,Bool.not_eq_true',List.any_eq_false,List.mem_range,JC,Bool.not_eq_true]
  constructor
  · intro h j hj
    have:=h j hj
    exact Decidable.byContradiction fun c=>this (decide_eq_false c)
  · intro h j hj c
    exact(of_decide_eq_false c) (h j hj)
 rw[e]
 constructor
 · intro h
   refine⟨?_,fun x hx=>?_⟩
   · have key:∀d i,i+d+1<l.length→nth l i<nth l (i+d+1):=by
      intro d
      induction d with
      | zero=>intro i hi;have:=(h (i+0+1) hi).2.2 (by omega);simpa using this
      | succ d ih=>
        intro i hi
        have a:=ih i (by omega)
        have b:=(h (i+(d+1)+1) hi).2.2 (by omega)
        rw[show i+(d+1)+1-1=i+d+1 by omega]at b
        omega
     rw[List.pairwise_iff_getElem]
     intro i j hi hj hij
     have:=key (j-i-1) i (by omega)
     rw[show i+(j-i-1)+1=j by omega,bA (List.getElem?_eq_getElem hi),bA (List.getElem?_eq_getElem hj)]at this
     exact this
   · obtain⟨j,hj⟩:=List.mem_iff_getElem?.1 hx
     have:=h j (List.getElem?_eq_some_iff.1 hj).1
     rw[bA hj]at this
     exact⟨this.1,this.2.1⟩
 · rintro ⟨h1,h2⟩ j hj
   refine⟨(h2 _ (ae hj)).1,(h2 _ (ae hj)).2,fun h0=>?_⟩
   have:=(List.pairwise_iff_getElem.1 h1) (j-1) j (by omega) hj (by omega)
   rwa [← bA (List.getElem?_eq_getElem (by omega:j-1<l.length)),←bA (List.getElem?_eq_getElem hj)]at this
theorem Hj(l:List Int):Oj (iH l) 1 65535=ew l:=by
 rw[Bool.eq_iff_iff,MG,yB]
 have p:=jN l
 have u:=uw l
 constructor
 · rintro ⟨h1,h2⟩
   refine⟨p.nodup_iff.1 (h1.imp fun h=>by omega),fun x hx=>h2 x (p.mem_iff.2 hx)⟩
 · rintro ⟨h1,h2⟩
   have nd:(iH l).Nodup:=p.nodup_iff.2 h1
   refine⟨?_,fun x hx=>h2 x (p.mem_iff.1 hx)⟩
   have:=List.Pairwise.and u nd
   exact this.imp fun h=>by omega
theorem J8(l:List Int)(hl:l.length≤1000000):aO 0 N.eQ [.t (tL l)] []=some (B (ew l),[]):=by
 refine ay K.n9 rfl ?_
 have v:=yq l
 have s:=yr l hl
 have r:=Cs (iH l) 1 65535 (by rw[lg];omega)
 rw[Hj]at r
 simp (disch:=omega) only[go_sem,K.eQ,↓reduceIte,v,s,r,Nat.reduceAdd,Nat.reduceSub]
end Go.Ev
