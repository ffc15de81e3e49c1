/- Parts of the proof: see the text that holds the theorem. -/
import Derived.Test.YtljlbkjecjloaaaGreatZ3
set_option linter.all false
set_option maxRecDepth 100000
namespace Go.Ev
open Go
section
variable (H : aj) (sz id ep n lo hi : Nat) (i j : Int) (fz : Bool)
def scO(r:D):Option Obj→Option (D×aj)
 | some (.arr sz' _ ep' es)=>if ep=ep'∧n=es.length then(if sz'=sz then some (r,H)else none)else none
 | _=>none
@[go_sem] theorem acw (r : D) (sz' : Nat) (pin : Bool) (es : List D) : scO H sz ep n r (some (.arr sz' pin ep es)) = if n = es.length then (if sz' = sz then some (r, H) else none) else none := by simp [scO]
theorem scR{l h:Nat}:((fF H id ep n).bind fun a=>if l≤h∧h≤n∧a.1=sz then some (D.sub id ep n l h)else none).map (fun d=>(d,H))=if l≤h then(if h≤n then scO H sz ep n (.sub id ep n l h) H[id]? else none)else none:=by
 simp only[fF]
 generalize H[id]?=o
 by_cases h1:l≤h
 · by_cases h2:h≤n
   · rw[if_pos h1,if_pos h2]
     rcases o with _ | (_ | ⟨sz',pin,ep',es⟩)
     · rfl
     · rfl
     · simp only[scO]
       by_cases h3:ep=ep'∧n=es.length
       · rw[if_pos h3,if_pos h3,Option.bind_some]
         by_cases h4:sz'=sz
         · rw[if_pos h4,if_pos ⟨h1,h2,h4⟩];rfl
         · rw[if_neg h4,if_neg fun h=>h4 h.2.2];rfl
       · rw[if_neg h3,if_neg h3];rfl
   · rw[if_pos h1,if_neg h2]
     rcases o with _ | (_ | ⟨sz',pin,ep',es⟩)
     · rfl
     · rfl
     · by_cases h3:ep=ep'∧n=es.length
       · simp only[if_pos h3,Option.bind_some];rw[if_neg fun h=>h2 h.2.1];rfl
       · simp only[if_neg h3];rfl
 · rw[if_neg h1]
   rcases o with _ | (_ | ⟨sz',pin,ep',es⟩)
   · rfl
   · rfl
   · by_cases h3:ep=ep'∧n=es.length
     · simp only[if_pos h3,Option.bind_some];rw[if_neg fun h=>h1 h.1];rfl
     · simp only[if_neg h3];rfl
@[go_sem] theorem QS : B9 H sz (some (.ref id ep n)) (some none) (some (some i)) = if 0 ≤ i then (if i ≤ n then scO H sz ep n (.sub id ep n 0 i.toNat) H[id]? else none) else none := by
 simp only[B9,Option.bind_some,ni,bound,idx]
 by_cases h1:0≤i
 · rw[if_pos h1,if_pos h1,Option.bind_some,scR,if_pos (Nat.zero_le _)]
   by_cases h2:i≤n
   · rw[if_pos h2,if_pos (by omega)]
   · rw[if_neg h2,if_neg (by omega)]
 · rw[if_neg h1,if_neg h1];rfl
@[go_sem] theorem QT : B9 H sz (some (.ref id ep n)) (some (some i)) (some none) = if 0 ≤ i then (if i ≤ n then scO H sz ep n (.sub id ep n i.toNat n) H[id]? else none) else none := by
 simp only[B9,Option.bind_some,ni,bound,idx]
 by_cases h1:0≤i
 · rw[if_pos h1,if_pos h1,Option.bind_some,scR]
   by_cases h2:i≤n
   · rw[if_pos h2,if_pos (by omega),if_pos (by omega)]
   · rw[if_neg h2,if_neg (by omega)]
 · rw[if_neg h1,if_neg h1];rfl
@[go_sem] theorem Mh : B9 H sz (some (.ref id ep n)) (some (some i)) (some (some j)) = if 0 ≤ i then (if i ≤ j then (if j ≤ n then scO H sz ep n (.sub id ep n i.toNat j.toNat) H[id]? else none) else none) else none := by
 simp only[B9,Option.bind_some,ni,bound,idx]
 by_cases h1:0≤i
 · rw[if_pos h1,if_pos h1,Option.bind_some]
   by_cases h0:i≤j
   · rw[if_pos h0,if_pos (by omega),Option.bind_some,scR,if_pos (by omega)]
     by_cases h2:j≤n
     · rw[if_pos h2,if_pos (by omega)]
     · rw[if_neg h2,if_neg (by omega)]
   · rw[if_neg h0]
     by_cases h2:0≤j
     · rw[if_pos h2,Option.bind_some,scR,if_neg (by omega)]
     · rw[if_neg h2];rfl
 · rw[if_neg h1,if_neg h1];rfl
@[go_sem] theorem QU : B9 H sz (some .nil) (some none) (some (some i)) = if i = 0 then some (.nil, H) else none := by
 simp only[B9,Option.bind_some,ni,bound,idx]
 by_cases h1:0≤i
 · rw[if_pos h1,Option.bind_some]
   by_cases h2:i=0
   · rw[if_pos h2,if_pos (by omega)];rfl
   · rw[if_neg h2,if_neg (by omega)];rfl
 · rw[if_neg h1,if_neg (by omega)];rfl
@[go_sem] theorem QV : B9 H sz (some .nil) (some (some i)) (some none) = if i = 0 then some (.nil, H) else none := by
 simp only[B9,Option.bind_some,ni,bound,idx]
 by_cases h1:0≤i
 · rw[if_pos h1,Option.bind_some]
   by_cases h2:i=0
   · rw[if_pos h2,if_pos (by omega)];rfl
   · rw[if_neg h2,if_neg (by omega)];rfl
 · rw[if_neg h1,if_neg (by omega)];rfl
def FL(x:D)(ys:List D):Option (D×aj):=if cj sz ys=true then(match x with
 | .nil=>if ys.length≤4294967296 then some (.ref H.length 0 ys.length,H++[.arr sz false 0 ys])else none
 | .ref id ep n=>vU H sz id ep n ys H[id]?
 | _=>none)else none
@[go_sem] theorem ZK (ys : List D) : FL H sz .nil ys = if cj sz ys = true then (if ys.length ≤ 4294967296 then some (.ref H.length 0 ys.length, H ++ [.arr sz false 0 ys]) else none) else none := (rfl)
@[go_sem] theorem ZL (ys : List D) : FL H sz (.ref id ep n) ys = if cj sz ys = true then vU H sz id ep n ys H[id]? else none := (rfl)
@[go_sem] theorem N3 : cj sz [] = true := (rfl)
@[go_sem] theorem AP (d : D) (r : List D) : cj sz (d :: r) = nJ sz d.cells := by
 rw[Bool.eq_iff_iff,fk];simp[cj]
def WZ(x:D):Option Obj→Option (D×aj)
 | some (.arr _ _ ep' es)=>if ep=ep'∧n=es.length then FL H sz x ((es.drop lo).take (hi-lo))else none
 | _=>none
def W4(x:D):Option Obj→Option (D×aj)
 | some (.arr _ _ ep' es)=>if ep=ep'∧n=es.length then FL H sz x es else none
 | _=>none
@[go_sem] theorem ZM (x : D) (sz' : Nat) (pin : Bool) (es : List D) : WZ H sz ep n lo hi x (some (.arr sz' pin ep es)) = if n = es.length then FL H sz x ((es.drop lo).take (hi - lo)) else none := by simp [WZ]
@[go_sem] theorem ZN (x : D) (sz' : Nat) (pin : Bool) (es : List D) : W4 H sz ep n x (some (.arr sz' pin ep es)) = if n = es.length then FL H sz x es else none := by simp [W4]
theorem Jk(x:D)(ys:List D):(if cj sz ys=true then(match x with
 | .nil=>if ys.length≤lim then some (D.ref H.length 0 ys.length,H++[.arr sz false 0 ys])else none
 | .ref id ep n=>(fF H id ep n).bind fun a=>if a.1=sz∧n+ys.length≤lim then some (.ref id ep (n+ys.length),H.set id (.arr sz a.2.1 ep (a.2.2++ys)))else none
 | _=>none)else none)=FL H sz x ys:=by
 unfold FL
 split
 · cases x with
   | ref id ep n=>
     simp only[fF]
     generalize H[id]?=o
     rcases o with _ | (_ | ⟨sz',pin,ep',es⟩)
     · rfl
     · rfl
     · simp only[vU]
       by_cases h1:ep=ep'∧n=es.length
       · rw[if_pos h1,Option.bind_some]
         by_cases h2:sz'=sz∧n+ys.length≤lim
         · rw[if_pos h2,if_pos ⟨h1.1,h1.2,h2⟩]
         · rw[if_neg h2,if_neg fun h=>h2 h.2.2]
       · rw[if_neg h1,if_neg fun h=>h1 ⟨h.1,h.2.1⟩];rfl
   | _=>rfl
 · rfl
theorem vi(x y:D)(ys:List D)(h:elems H y=some ys):o5 H sz false (some x) (some y)=FL H sz x ys:=by
 simp only[o5,Option.bind_some,mr,h,Bool.false_eq_true,if_false]
 exact Jk H sz x ys
@[go_sem] theorem K2 (x : D) : o5 H sz false (some x) (some .nil) = FL H sz x [] := vi H sz x .nil [] rfl
@[go_sem] theorem K3 (x : D) : o5 H sz false (some x) (some (.ref id ep n)) = W4 H sz ep n x H[id]? := by
 cases he:elems H (.ref id ep n)with
 | some ys=>
   rw[vi H sz x _ ys he]
   simp only[elems,fF]at he
   generalize H[id]?=o at he
   rcases o with _ | (_ | ⟨sz',pin,ep',es⟩)
   · cases he
   · cases he
   · simp only[W4]
     by_cases h1:ep=ep'∧n=es.length
     · simp only[if_pos h1]at he ⊢;cases he;rfl
     · simp only[if_neg h1]at he;cases he
 | none=>
   have:o5 H sz false (some x) (some (.ref id ep n))=none:=by simp only[o5,Option.bind_some,mr,he];rfl
   rw[this]
   simp only[elems,fF]at he
   generalize H[id]?=o at he
   rcases o with _ | (_ | ⟨sz',pin,ep',es⟩)
   · rfl
   · rfl
   · simp only[W4]
     by_cases h1:ep=ep'∧n=es.length
     · simp only[if_pos h1]at he;cases he
     · simp only[if_neg h1]
@[go_sem] theorem K4 (x : D) : o5 H sz false (some x) (some (.sub id ep n lo hi)) = WZ H sz ep n lo hi x H[id]? := by
 cases he:elems H (.sub id ep n lo hi)with
 | some ys=>
   rw[vi H sz x _ ys he]
   simp only[elems,fF]at he
   generalize H[id]?=o at he
   rcases o with _ | (_ | ⟨sz',pin,ep',es⟩)
   · cases he
   · cases he
   · simp only[WZ]
     by_cases h1:ep=ep'∧n=es.length
     · simp only[if_pos h1]at he ⊢;cases he;rfl
     · simp only[if_neg h1]at he;cases he
 | none=>
   have:o5 H sz false (some x) (some (.sub id ep n lo hi))=none:=by simp only[o5,Option.bind_some,mr,he];rfl
   rw[this]
   simp only[elems,fF]at he
   generalize H[id]?=o at he
   rcases o with _ | (_ | ⟨sz',pin,ep',es⟩)
   · rfl
   · rfl
   · simp only[WZ]
     by_cases h1:ep=ep'∧n=es.length
     · simp only[if_pos h1]at he;cases he
     · simp only[if_neg h1]
def TX(ep n lo hi:Nat):Option Obj→Option (List D)
 | some (.arr _ _ ep' es)=>if ep=ep'∧n=es.length then some ((es.drop lo).take (hi-lo))else none
 | _=>none
def ZO(x:D):Option (List D)→Option (D×aj)
 | some ys0=>(bO (fun d=>(frz H depth d).map .t) ys0).bind fun ys=>if cj sz ys then FL (pins H (ys0.flatMap (eW H depth))) sz x ys else none
 | none=>none
@[go_sem] theorem adJ (x : D) (ts : List T) : ZO H sz x (some (ts.map .t)) = FL H sz x (ts.map .t) := by
 simp only[ZO,tQ,Option.bind_some,Fu,pins]
 by_cases h:cj sz (ts.map D.t)=true
 · rw[if_pos h]
 · rw[if_neg h];unfold FL;rw[if_neg h]
@[go_sem] theorem Mi (x : D) : o5 H sz true (some x) (some (.sub id ep n lo hi)) = ZO H sz x (TX ep n lo hi H[id]?) := by
 have e:elems H (.sub id ep n lo hi)=TX ep n lo hi H[id]?:=by
  simp only[elems,fF]
  generalize H[id]?=o
  rcases o with _ | (_ | ⟨sz',pin,ep',es⟩)
  · rfl
  · rfl
  · simp only[TX]
    by_cases h1:ep=ep'∧n=es.length
    · simp only[if_pos h1];rfl
    · simp only[if_neg h1];rfl
 simp only[o5,Option.bind_some,mr,e]
 cases TX ep n lo hi H[id]? with
 | none=>rfl
 | some ys0=>
   simp only[Option.bind_some,ZO,if_true]
   cases hm:bO (fun d=>(frz H depth d).map D.t) ys0 with
   | none=>rfl
   | some ys=>
     simp only[Option.bind_some]
     refine(Jk _ _ _ _).trans ?_
     by_cases h:cj sz ys=true
     · rw[if_pos h]
     · rw[if_neg h];unfold FL;rw[if_neg h]
@[go_sem] theorem ZP (ep n lo hi sz : Nat) (pin : Bool) (ts : List T) : TX ep n lo hi (some (.arr sz pin ep (ts.map .t))) = if n = ts.length then some (((ts.drop lo).take (hi - lo)).map .t) else none := by
 simp only[TX,true_and,List.length_map,List.map_take,List.map_drop]
def Jl(ds:List D):Option (D×aj):=if ds.all (fun d=>d.cells.length==sz&&d.iK)then some (.ref H.length 0 ds.length,H++[.arr sz false 0 ds])else none
@[go_sem] theorem adK (call : aR) (get : X → Option D) (xs : List X) : evO call get H (.bsr xs sz) = (bO get xs).bind (Jl H sz) := (rfl)
@[go_sem] theorem W5 : Jl H sz [] = some (.ref H.length 0 0, H ++ [.arr sz false 0 []]) := (rfl)
@[go_sem] theorem W6 (k : IntKind) (n : Int) : Jl H 1 [.t (.int k n)] = some (.ref H.length 0 1, H ++ [.arr 1 false 0 [.t (.int k n)]]) := (rfl)
@[go_sem] theorem W7 (cs : List D) : Jl H sz [.agg cs] = if nJ sz cs = true then some (.ref H.length 0 1, H ++ [.arr sz false 0 [.agg cs]]) else none := by
 simp only[Jl,List.all_cons,List.all_nil,Bool.and_true,D.cells,D.iK]
 by_cases h:nJ sz cs=true
 · rw[if_pos h,if_pos (by simpa using fk.1 h)];rfl
 · rw[if_neg h,if_neg (by intro e;exact h (fk.2 (by simpa using e)))]
end
@[go_sem] theorem N4 : (1 : Int).toNat = 1 := (rfl)
@[go_sem] theorem QW : (2 : Int).toNat = 2 := (rfl)
@[go_sem] theorem Mj : (3 : Int).toNat = 3 := (rfl)
section
variable {H t : aj} {i j k : Nat} {o o' : Obj}
theorem iy(h:i<H.length):(H++t)[i]?=H[i]?:=List.getElem?_append_left h
theorem iQ:(H++t)[H.length]?=t[0]?:=by rw[List.getElem?_append_right (Nat.le_refl _),Nat.sub_self]
theorem gy:(H++t)[H.length+k]?=t[k]?:=by rw[List.getElem?_append_right (Nat.le_add_right _ _),Nat.add_sub_cancel_left]
theorem Jm(h:i<H.length):(H++t).set i o=H.set i o++t:=List.set_append_left _ _ h
theorem mq:(H++t).set H.length o=H++t.set 0 o:=by rw[List.set_append_right _ _ (Nat.le_refl _),Nat.sub_self]
theorem oH(h:i<H.length):(H.set i o)[i]?=some o:=by simp[h]
theorem gz(h:i≠j):(H.set i o)[j]?=H[j]?:=List.getElem?_set_ne h
theorem rv:(H.set i o).set i o'=H.set i o':=List.set_set ..
theorem rz(a b:aj):(H++a)++b=H++(a++b):=List.append_assoc ..
theorem mL(h:H[i]?=some o):i<H.length:=(List.getElem?_eq_some_iff.1 h).1
end
theorem Ea(H:aj)(id sz n:Nat)(es:List D)(ts:List T)(hid:H[id]?=some (.arr sz false 0 es))(hn:n=es.length)(hf:bO (frz H 8) es=some ts)(ha:∀i∈es.flatMap (eW H 8),i≠id):
 finish 0 1 H [.ref id 0 n]=some (.ref 0 0 n,[.arr sz false 0 (ts.map .t)]):=by
 have hold:([D.ref id 0 n].all (old 0 depth)&&(H.take 0).all (fun o=>o.ds.all (old 0 depth)))=false:=by
  simp[old,depth]
 have hmap:∀ {es:List D} {ts:List T},bO (frz H 8) es=some ts→bO (fun d=>(frz H 8 d).map D.t) es=some (ts.map .t):=by
  intro es
  induction es with
  | nil=>intro ts h;simp[bO]at h;subst h;rfl
  | cons e es ih=>
    intro ts h
    simp only[bO,Option.bind_eq_some_iff,Option.map_eq_some_iff]at h
    obtain⟨y,hy,r,hr,rfl⟩:=h
    simp only[bO,hy,Option.map_some,Option.bind_some,ih hr,List.map_cons]
 have hnew:(eX [] [id]).drop 0=[id]:=by simp[eX]
 have hall:(es.flatMap (eW H 8)).all (fun i=> !([]++[id]).contains i)=true:=by
  rw[List.all_eq_true];intro i hi;simpa using ha i hi
 unfold finish
 rw[if_neg (by omega),Option.bind_some,hold,if_neg (by simp)]
 have hk:kZ H (max 1 1) (List.range 0) ([D.ref id 0 n].flatMap (ids depth)++ot H (List.range 0))=some ([id],[.arr sz false 0 (ts.map .t)]):=by
  have e1:[D.ref id 0 n].flatMap (ids depth)++ot H (List.range 0)=[id]:=by simp[ids,depth,ot]
  rw[e1]
  simp only[Nat.max_self,List.range_zero]
  unfold kZ
  simp only[List.length_nil,hnew,pick,hid,Option.bind_some,Option.map_some,if_true,List.flatMap_cons,List.flatMap_nil,List.append_nil,Obj.ds,depth,hall,bO,dZ,hmap hf]
  simp only[kZ,Option.map_some,List.append_nil,Option.bind_some]
 rw[hk]
 simp only[Option.bind_some,List.range_zero,List.nil_append,List.take_zero,iC,Nat.succ_ne_zero,if_false,Nat.one_ne_zero,List.all_nil,if_true,bO,ren,idxOf,Option.map_some,gE,te,depth]
 have:=IY (fun i=>if id=i then some 0 else Option.map (fun x=>x+1) none) ts
 simp only[depth]at this
 rw[this];rfl
end Go.Ev
namespace Go.Ev.N
def Jn:Nat:=78
def HZ:Nat:=79
def G1:Nat:=80
def QX:Nat:=81
def K5:Nat:=82
def QY:Nat:=83
def QZ:Nat:=84
def Q0:Nat:=85
def TY:Nat:=86
def N5:Nat:=87
def Q1:Nat:=88
def N6:Nat:=89
def N7:Nat:=90
def TZ:Nat:=91
def N8:Nat:=92
def T0:Nat:=93
def jg:Nat:=94
def W8:Nat:=95
def Q2:Nat:=96
def T1:Nat:=97
def Q3:Nat:=98
def Q4:Nat:=99
def Q5:Nat:=100
def T2:Nat:=101
def W9:Nat:=102
def Dr:Nat:=103
def Mk:Nat:=104
def ef:Nat:=105
def N9:Nat:=106
def T3:Nat:=107
def T4:Nat:=108
def Q6:Nat:=109
def T5:Nat:=110
def fg:Nat:=111
def Q7:Nat:=112
def Q8:Nat:=113
def T6:Nat:=114
def Oa:Nat:=115
def T7:Nat:=116
def T8:Nat:=117
def b8:Nat:=118
def Ob:Nat:=119
def Ml:Nat:=120
def Mm:Nat:=121
def FM:Nat:=122
end Go.Ev.N
namespace Go.Ev.N
def Jo:Nat:=123
def H3:Nat:=124
def K6:Nat:=125
def Jp:Nat:=126
def Q9:Nat:=127
def Ra:Nat:=128
def Rb:Nat:=129
def T9:Nat:=130
def Ua:Nat:=131
def Rc:Nat:=132
def Re:Nat:=133
def Mn:Nat:=134
def Mo:Nat:=135
def Ub:Nat:=136
def Rf:Nat:=137
def Mp:Nat:=138
def Oc:Nat:=139
def K7:Nat:=140
def Od:Nat:=141
def Mq:Nat:=142
def Jq:Nat:=143
def Jr:Nat:=144
def cT:Nat:=145
def Oe:Nat:=146
def Of:Nat:=147
def bG:Nat:=148
end Go.Ev.N
namespace Go.Ev.N
def FN:Nat:=149
def Js:Nat:=150
def Jt:Nat:=151
def H4:Nat:=152
def Rg:Nat:=153
def Rh:Nat:=154
def Og:Nat:=155
def Oh:Nat:=156
def Ri:Nat:=157
def Uc:Nat:=158
def Rj:Nat:=159
def bc:Nat:=160
def FO:Nat:=161
def Rk:Nat:=162
def Ud:Nat:=163
def Oi:Nat:=164
def Ue:Nat:=165
def Oj:Nat:=166
def dR:Nat:=167
def rI:Nat:=168
def Mr:Nat:=169
def dD:Nat:=170
def G2:Nat:=171
def Ms:Nat:=172
def hU:Nat:=173
def s7:Nat:=174
def Ju:Nat:=175
def cU:Nat:=176
def fo:Nat:=177
end Go.Ev.N
namespace Go.Ev.K
open Go.Ev
def cV:C:=(.seq (.ite [m v6,m v5,u (.ln l0),u (.bin .lss l2 l0)] [] 0 .skip (.exit 0)) (.blk 1 (.reg [m v6,m v5,m v6,u (.sc l1 (some l0) none 1),m v5,m v6,u (.sc l1 none (some l0) 1),u (.cp l3 l0 1),u (.bin .add l7 l0),w 6 (.mv l0)] [])))
def jQ:C:= .loop true [0,1,2,3,4] K.cV
def bc:Fn:={ nargs:=2,vars:=[0,1,4,5,6,7,8],body:=(.seq (.reg [w 2 (.mv (.c (.nil)))] []) (.seq (.ite [m v1,u (.bin .lss l0 (.i 0))] [] 0 .fail .skip) (.seq (.reg [m v0,u (.ln l0),u (.cv .u64 l0),m v1,u (.cv .u64 l0),u (.ca N.dD 0 [] [.l 2,.l 0]),m l0,u (.ex l0 0),u (.ex l1 1),w 3 (.mv l1),w 4 (.mv l1)] []) (.seq (.ite [m v3,u (.bin .gtr l0 (.c (.t (.int .u64 (0))))),m l0,y 0 false (.mv v4),y 1 false (.bin .gtr l0 (.c (.t (.int .u64 (9223372036854775807))))),u (.pk l2 (.b true) l0)] [] 0 .fail .skip) (.seq (.reg [m v4,u (.cv .i64 l0),u (.mk l0 (.t (.int .i64 (0))) 1),w 5 (.mv l0)] []) (.seq (.reg [m v5,m v0,u (.cp l1 l0 1),w 6 (.mv l0)] []) (.seq (.blk 0 K.jQ) (.seq (.reg [m v5,w 2 (.mv l0)] []) .ret)))))))),res:=[(2,none)]}
def dR:Fn:={ nargs:=1,vars:=[0,1,2],body:=(.seq (.reg [w 1 (.bx v0 2),w 2 (.mv (.b false))] []) (.seq (.reg [h 2 v1,u (.ca N.hU 0 [] [.l 0]),u (.bin .eql l0 (.i 0)),w 2 (.mv l0)] []) .ret)),res:=[(2,none)]}
def dD:Fn:={ nargs:=2,vars:=[0,1,4,5,8,9],body:=(.seq (.reg [w 2 (.mv (.c (.t (.int .u64 (0))))),w 3 (.mv (.c (.t (.int .u64 (0)))))] []) (.seq (.cnd false .skip) (.seq (.reg [m v0,m v1,u (.ca N.cU 0 [] [.l 1,.l 0]),m l0,u (.ex l0 0),u (.ex l1 1),w 4 (.mv l1),w 5 (.mv l1)] []) (.seq (.reg [m v4,m v5,w 2 (.mv l1),w 3 (.mv l1)] []) .ret)))),res:=[(2,none),(3,none)]}
end Go.Ev.K
namespace Go.Ev
class gg [Lib]:Prop where
 gI:Lib.fs N.bc=some K.bc
 qI:Lib.fs N.dR=some K.dR
 mM:Lib.fs N.dD=some K.dD
namespace K
variable [Lib] [gg]
theorem gI:Lib.fs N.bc=some K.bc:=gg.gI
theorem qI:Lib.fs N.dR=some K.dR:=gg.qI
theorem mM:Lib.fs N.dD=some K.dD:=gg.mM
end K
end Go.Ev
namespace Go.Ev.K
open Go.Ev
def nZ:C:=(.its [u (.bin .lss v8 v7)] [] 0 .skip (.exit 0) (.seq (.blk 1 (.seq (.reg [a 2 v6 v8,h 2 l0,w 3 (.al [.t (.int .i64 (0)),.t (.bool false)] []),u (.st l0 l1 2 [])] []) (.ite [f 0 v3,g l0,u (.bin .lss l0 (.i (-10000))),m l0,y 0 false (.fa v3 0),y 1 false (.ld l0 1 false),y 2 false (.bin .gtr l0 (.i 10000)),u (.pk l3 (.b true) l0)] [] 0 (.seq (.reg [w 2 (.mv (.i 1))] []) .ret) .skip))) (.reg [u (.bin .add v8 (.i 1)),w 8 (.mv l0)] [])))
def uh:C:= .loop true [0,2,3,4,5,9,10,11] K.nZ
def n5:C:=(.its [u (.bin .lss v11 v10)] [] 0 .skip (.exit 2) (.seq (.blk 3 (.seq (.reg [a 10 v9 v11,h 10 l0,w 5 (.al [.t (.int .i64 (0)),.t (.int .i64 (0)),.t (.int .i64 (0)),.t (.int .i64 (0)),.t (.bool false),.t (.bool false),.t (.int .i64 (0)),.t (.int .i64 (0)),.t (.int .i64 (0)),.t (.int .i64 (0))] []),u (.st l0 l1 10 [])] []) (.seq (.ite [f 0 v5,g l0,u (.bin .lss l0 (.i 0)),m l0,y 0 false (.fa v5 0),y 1 false (.ld l0 1 false),y 2 false (.mv v4),y 3 false (.bin .geq l1 l0),u (.pk l4 (.b true) l0),m l0,y 0 false (.fa v5 1),y 1 false (.ld l0 1 false),y 2 false (.bin .lss l0 (.i 0)),u (.pk l3 (.b true) l0),m l0,y 0 false (.fa v5 1),y 1 false (.ld l0 1 false),y 2 false (.mv v4),y 3 false (.bin .geq l1 l0),u (.pk l4 (.b true) l0),m l0,y 0 false (.fa v5 0),y 1 false (.ld l0 1 false),y 2 false (.fa v5 1),y 3 false (.ld l0 1 false),y 4 false (.bin .eql l2 l0),u (.pk l5 (.b true) l0)] [] 0 (.seq (.reg [w 2 (.mv (.i 4))] []) .ret) .skip) (.seq (.ite [f 2 v5,g l0,u (.bin .lss l0 (.i 1)),m l0,y 0 false (.fa v5 2),y 1 false (.ld l0 1 false),y 2 false (.bin .gtr l0 (.i 100000)),u (.pk l3 (.b true) l0),m l0,y 0 false (.fa v5 3),y 1 false (.ld l0 1 false),y 2 false (.bin .lss l0 (.i 1)),u (.pk l3 (.b true) l0),m l0,y 0 false (.fa v5 3),y 1 false (.ld l0 1 false),y 2 false (.bin .gtr l0 (.i 1000)),u (.pk l3 (.b true) l0)] [] 0 (.seq (.reg [w 2 (.mv (.i 1))] []) .ret) .skip) (.ite [f 6 v5,h 2 l0,u (.ca N.fo 0 [] [.l 0,.i 1,.i 262144]),u (.un .not l0),m l0,y 0 false (.fa v5 8),y 1 false (.ld l0 2 true),y 2 false (.ca N.fo 0 [] [.l 0,.i (-2199023255552),.i 2199023255552]),y 3 false (.un .not l0),u (.pk l4 (.b true) l0)] [] 0 (.seq (.reg [w 2 (.mv (.i 1))] []) .ret) .skip))))) (.reg [u (.bin .add v11 (.i 1)),w 11 (.mv l0)] [])))
def ui:C:= .loop true [0,1,2,3,5,6,7,8] K.n5
def hU:Fn:={ nargs:=1,vars:=[0,1,2,4,5,7,19,20,21,38,39,40],body:=(.seq (.reg [w 1 (.bx v0 2),w 2 (.mv (.i 0))] []) (.seq (.ite [f 0 v1,g l0,u (.ln l0),u (.bin .gtr l0 (.i 64)),m l0,y 0 false (.fa v1 1),y 1 false (.ld l0 1 false),y 2 false (.ln l0),y 3 false (.bin .gtr l0 (.i 128)),u (.pk l4 (.b true) l0)] [] 0 (.seq (.reg [w 2 (.mv (.i 2))] []) .ret) .skip) (.seq (.seq (.reg [f 0 v1,w 6 (.ld l0 1 false),w 7 (.ln l0),w 8 (.mv (.i 0))] []) (.blk 0 K.uh)) (.seq (.reg [f 0 v1,g l0,u (.ln l0),w 4 (.mv l0)] []) (.seq (.seq (.reg [f 1 v1,w 9 (.ld l0 1 false),w 10 (.ln l0),w 11 (.mv (.i 0))] []) (.blk 2 K.ui)) (.seq (.reg [w 2 (.mv (.i 0))] []) .ret)))))),res:=[(2,none)]}
def cU:Fn:={ nargs:=2,vars:=[0,1,4,5,6,7,8,9,10,11,12,13],body:=(.seq (.reg [w 2 (.mv (.c (.t (.int .u64 (0))))),w 3 (.mv (.c (.t (.int .u64 (0)))))] []) (.seq (.reg [m v0,u (.bin .and l0 (.c (.t (.int .u64 (4294967295))))),w 4 (.mv l0)] []) (.seq (.reg [m v0,u (.bin .shr l0 (.c (.t (.int .u64 (32))))),w 5 (.mv l0)] []) (.seq (.reg [m v1,u (.bin .and l0 (.c (.t (.int .u64 (4294967295))))),w 6 (.mv l0)] []) (.seq (.reg [m v1,u (.bin .shr l0 (.c (.t (.int .u64 (32))))),w 7 (.mv l0)] []) (.seq (.reg [m v4,m v6,u (.bin .mul l1 l0),w 8 (.mv l0)] []) (.seq (.reg [m v5,m v6,u (.bin .mul l1 l0),m v8,u (.bin .shr l0 (.c (.t (.int .u64 (32))))),u (.bin .add l2 l0),w 9 (.mv l0)] []) (.seq (.reg [m v9,u (.bin .and l0 (.c (.t (.int .u64 (4294967295))))),w 10 (.mv l0)] []) (.seq (.reg [m v9,u (.bin .shr l0 (.c (.t (.int .u64 (32))))),w 11 (.mv l0)] []) (.seq (.reg [m v10,m v4,m v7,u (.bin .mul l1 l0),u (.bin .add l3 l0),w 10 (.mv l0)] []) (.seq (.reg [m v5,m v7,u (.bin .mul l1 l0),m v11,u (.bin .add l1 l0),m v10,u (.bin .shr l0 (.c (.t (.int .u64 (32))))),u (.bin .add l2 l0),w 2 (.mv l0)] []) (.seq (.reg [m v0,m v1,u (.bin .mul l1 l0),w 3 (.mv l0)] []) .ret)))))))))))),res:=[(2,none),(3,none)]}
def fo:Fn:={ nargs:=3,vars:=[0,1,2,3,6],body:=(.seq (.reg [w 3 (.bx v0 2),w 4 (.mv (.b false))] []) (.seq (.reg [m v1,f 0 v3,g l0,u (.bin .leq l2 l0),m l0,y 0 true (.fa v3 0),y 1 true (.ld l0 1 false),y 2 true (.fa v3 1),y 3 true (.ld l0 1 false),y 4 true (.bin .leq l2 l0),u (.pk l5 l0 (.b false)),m l0,y 0 true (.fa v3 1),y 1 true (.ld l0 1 false),y 2 true (.mv v2),y 3 true (.bin .leq l1 l0),u (.pk l4 l0 (.b false)),w 4 (.mv l0)] []) .ret)),res:=[(4,none)]}
end Go.Ev.K
namespace Go.Ev
class gh [Lib]:Prop where
 qJ:Lib.fs N.hU=some K.hU
 kJ:Lib.fs N.cU=some K.cU
 pG:Lib.fs N.fo=some K.fo
namespace K
variable [Lib] [gh]
theorem qJ:Lib.fs N.hU=some K.hU:=gh.qJ
theorem kJ:Lib.fs N.cU=some K.cU:=gh.kJ
theorem pG:Lib.fs N.fo=some K.fo:=gh.pG
end K
end Go.Ev
namespace Go.Ev
open Go
variable [Lib] [cn] [bR] [gg] [gh]
section
variable (H : aj) (sz : Nat)
def Ol(id ep n lo hi:Nat)(ys:List D):Option Obj→Option (D×aj)
 | some (.arr sz' pin ep' es)=>if ep=ep'∧n=es.length then OW H id ep (sz',pin,es) lo hi ys sz else none
 | _=>none
def cpD(x:D)(ys:List D):Option (D×aj):=if cj sz ys=true then(match x with
 | .ref id ep n=>Ol H sz id ep n 0 n ys H[id]?
 | .sub id ep n lo hi=>Ol H sz id ep n lo hi ys H[id]?
 | _=>none)else none
def ZQ(x y:Option D):Option (D×aj):=x.bind fun a=>y.bind fun b=>Ai H a b sz
@[go_sem] theorem aez (call : aR) (get : X → Option D) (x y : X) : evO call get H (.cp x y sz) = ZQ H sz (get x) (get y) := (rfl)
theorem FP(x y:D)(ys:List D)(h:elems H y=some ys):Ai H x y sz=cpD H sz x ys:=by
 unfold Ai cpD
 rw[h,Option.bind_some]
 split
 · rename_i hh
   cases x with
   | ref id ep n=>
     simp only[fF,Ol]
     cases H[id]? with
     | none=>rfl
     | some o=>
       cases o with
       | box cs=>rfl
       | arr sz' pin ep' es=>
         simp only
         by_cases c:ep=ep'∧n=es.length
         · rw[if_pos c,if_pos c];rfl
         · rw[if_neg c,if_neg c];rfl
   | sub id ep n lo hi=>
     simp only[fF,Ol]
     cases H[id]? with
     | none=>rfl
     | some o=>
       cases o with
       | box cs=>rfl
       | arr sz' pin ep' es=>
         simp only
         by_cases c:ep=ep'∧n=es.length
         · rw[if_pos c,if_pos c];rfl
         · rw[if_neg c,if_neg c];rfl
   | _=>rfl
 · rfl
@[go_sem] theorem adL (x : D) (ts : List T) : ZQ H sz (some x) (some (.t (.sl ts))) = cpD H sz x (ts.map .t) := FP H sz x (.t (.sl ts)) (ts.map .t) rfl
def cpE(x:D)(ep n lo hi:Nat):Option Obj→Option (D×aj)
 | some (.arr _ _ ep' es)=>if ep=ep'∧n=es.length then cpD H sz x ((es.drop lo).take (hi-lo))else none
 | _=>none
@[go_sem] theorem acx (x : D) (n lo hi sz' : Nat) (pin : Bool) (ep : Nat) (es : List D) : cpE H sz x ep n lo hi (some (.arr sz' pin ep es)) = if n = es.length then cpD H sz x ((es.drop lo).take (hi - lo)) else none := by simp [cpE]
@[go_sem] theorem ZR (x : D) (id ep n lo hi : Nat) : ZQ H sz (some x) (some (.sub id ep n lo hi)) = cpE H sz x ep n lo hi H[id]? := by
 unfold ZQ
 simp only[Option.bind_some]
 cases h:H[id]? with
 | none=>simp[Ai,elems,fF,h,cpE]
 | some o=>
   cases o with
   | box cs=>simp[Ai,elems,fF,h,cpE]
   | arr sz' pin ep' es=>
     by_cases c:ep=ep'∧n=es.length
     · rw[FP H sz x _ ((es.drop lo).take (hi-lo)) (by simp[elems,fF,h,c])]
       simp only[cpE,if_pos c]
     · simp[Ai,elems,fF,h,cpE,c]
@[go_sem] theorem acy (id ep n : Nat) (ys : List D) : cpD H sz (.ref id ep n) ys = if cj sz ys = true then Ol H sz id ep n 0 n ys H[id]? else none := (rfl)
@[go_sem] theorem acz (id ep n lo hi : Nat) (ys : List D) : cpD H sz (.sub id ep n lo hi) ys = if cj sz ys = true then Ol H sz id ep n lo hi ys H[id]? else none := (rfl)
@[go_sem] theorem ZS (id n lo hi : Nat) (ys : List D) (ep : Nat) (es : List D) : Ol H sz id ep n lo hi ys (some (.arr sz false ep es)) =
 if n=es.length then(if min ys.length (hi-lo)=0 then some (.t (.int .i64 0),H)else some (.t (.int .i64 ((min ys.length (hi-lo):Nat):Int)),H.set id (.arr sz false ep (es.take lo++ys.take (min ys.length (hi-lo))++es.drop (lo+min ys.length (hi-lo))))))else none:=by
 simp[Ol,OW]
end
theorem Mt{n:Int}(h1:0≤n)(h2:n<18446744073709551616):IntKind.u64.wrap n=n:=by
 have e:IntKind.u64.wrap n=n % 18446744073709551616:=by simp[IntKind.wrap,IntKind.signed,IntKind.bits]
 rw[e];omega
theorem Xa{n:Nat}(h:n<4294967296):IntKind.u64.wrap ((BitVec.ofInt IntKind.u64.bits (n:Int) &&& BitVec.ofInt IntKind.u64.bits 4294967295).toNat:Nat)=(n:Int):=by
 have e:(BitVec.ofInt IntKind.u64.bits (n:Int) &&& BitVec.ofInt IntKind.u64.bits 4294967295).toNat=n:=by
  rw[BitVec.toNat_and]
  have a:(BitVec.ofInt IntKind.u64.bits (n:Int)).toNat=n:=by
   rw[BitVec.ofInt_natCast,BitVec.toNat_ofNat]
   exact Nat.mod_eq_of_lt (Nat.lt_of_lt_of_le h (by decide))
  have b:(BitVec.ofInt IntKind.u64.bits 4294967295).toNat=2 ^ 32-1:=by decide
  rw[a,b,Nat.and_two_pow_sub_one_eq_mod]
  exact Nat.mod_eq_of_lt h
 rw[e]
 exact Mt (by omega) (by omega)
theorem Xb{n:Nat}(h:n<4294967296):(n:Int).fdiv (2 ^ min (32:Int).toNat IntKind.u64.bits)=0:=by
 have e:(2 ^ min (32:Int).toNat IntKind.u64.bits:Int)=4294967296:=by decide
 rw[e,Int.fdiv_eq_ediv_of_nonneg _ (by omega)]
 omega
theorem Om{n:Nat}(h:n<4294967296):(((BitVec.ofInt IntKind.u64.bits (n:Int) &&& BitVec.ofInt IntKind.u64.bits 4294967295).toNat:Nat):Int)=(n:Int):=by
 have e:=Xa h
 rwa [Mt (by omega) (by
  have:(BitVec.ofInt IntKind.u64.bits (n:Int) &&& BitVec.ofInt IntKind.u64.bits 4294967295).toNat<2 ^ IntKind.u64.bits:=BitVec.isLt _
  have:2 ^ IntKind.u64.bits=18446744073709551616:=by decide
  omega)]at e
theorem Mu(a b:Nat)(ha:a<4294967296)(hb:b<4294967296)(h:a*b<4294967296):aO 0 N.cU [.t (.int .u64 a),.t (.int .u64 b)] []=some (.tup [.t (.int .u64 0),.t (.int .u64 ((a*b:Nat):Int))],[]):=by
 refine ax K.kJ rfl ?_
 have m:(a:Int)*(b:Int)=((a*b:Nat):Int):=(Int.natCast_mul a b).symm
 have z:=Xa (n:=0) (by omega)
 have z2:=Xb (n:=0) (by omega)
 have z3:=Om (n:=0) (by omega)
 have g3:=fun(n:Nat) (h:n<4294967296)=>Om (n:=n) h
 have g4:=fun(n:Nat) (h:n<4294967296)=>Xb (n:=n) h
 simp only[Int.ofNat_zero,Int.natCast_zero]at z z2 z3
 simp only[go_sem]at z2 z3 g3 g4
 simp (disch:=omega) only[go_sem,K.cU,↓reduceIte,g3,g4,m,z2,z3,Mt,Int.zero_mul,Int.mul_zero,Int.add_zero,Int.zero_add,Nat.reduceAdd,Nat.reduceSub]
theorem Xc(a b:Nat)(ha:a<4294967296)(hb:b<4294967296)(h:a*b<4294967296):aO 0 N.dD [.t (.int .u64 a),.t (.int .u64 b)] []=some (.tup [.t (.int .u64 0),.t (.int .u64 ((a*b:Nat):Int))],[]):=by
 refine ax K.mM rfl ?_
 have m:=Mu a b ha hb h
 simp (disch:=omega) only[go_sem,K.dD,↓reduceIte,m,Nat.reduceAdd,Nat.reduceSub]
def xg(v:Int)(n cur:Nat):List D:=List.replicate cur (I v)++List.replicate (n-cur) (I 0)
theorem FQ(v:Int){n cur:Nat}(h:cur≤n):(xg v n cur).length=n:=by simp[xg];omega
theorem Jv(v:Int){n cur m:Nat}(h:cur+m≤n)(hm:m≤cur):(xg v n cur).take cur++((xg v n cur).take cur).take m++(xg v n cur).drop (cur+m)=xg v n (cur+m):=by
 unfold xg
 have e1:(List.replicate cur (I v)++List.replicate (n-cur) (I 0)).take cur=List.replicate cur (I v):=by
  rw[List.take_append_of_le_length (by simp),List.take_of_length_le (by simp)]
 have e2:(List.replicate cur (I v)++List.replicate (n-cur) (I 0)).drop (cur+m)=List.replicate (n-(cur+m)) (I 0):=by
  rw[List.drop_append,List.length_replicate]
  simp;omega
 rw[e1,e2,List.take_replicate,Nat.min_eq_left hm,List.replicate_append_replicate]
theorem Xd(v:Int)(n cur:Nat):∃ts:List T,xg v n cur=ts.map .t:=⟨List.replicate cur (tI v)++List.replicate (n-cur) (tI 0),by simp[xg]⟩
theorem Cp(v:Int)(n cur:Nat)(lo k:Nat):cj 1 (((xg v n cur).drop lo).take k)=true:=by
 cases h:((xg v n cur).drop lo).take k with
 | nil=>rfl
 | cons d r=>
   have hm:d∈xg v n cur:=List.mem_of_mem_drop (List.mem_of_mem_take (h▸List.mem_cons_self))
   unfold xg at hm
   simp only[List.mem_append,List.mem_replicate]at hm
   rcases hm with⟨-,rfl⟩ | ⟨-,rfl⟩<;>rfl
theorem Eb(v:Int)(n:Nat)(hn:n≤1000000):∀(k cur:Nat),n-cur≤k→1≤cur→cur≤n→
 mz true [0,1,2,3,4] (exS aO K.cV) ⟨[.und,.und,.und,.und,.und,.ref 0 0 n,I cur],[.arr 1 false 0 (xg v n cur)]⟩=
  some (.exit 0,⟨[.und,.und,.und,.und,.und,.ref 0 0 n,I n],[.arr 1 false 0 (xg v n n)]⟩):=by
 intro k
 induction k with
 | zero=>
   intro cur h1 h2 h3
   have:cur=n:=by omega
   subst this
   refine dk ?_ (by simp)
   have rl:=FQ v (Nat.le_refl cur)
   simp (disch:=omega) only[go_sem,K.cV,↓reduceIte,Nat.reduceAdd,Nat.reduceSub]
 | succ k ih=>
   intro cur h1 h2 h3
   by_cases c:cur=n
   · subst c
     refine dk ?_ (by simp)
     simp (disch:=omega) only[go_sem,K.cV,↓reduceIte,Nat.reduceAdd,Nat.reduceSub]
   · have rl:=FQ v (n:=n) (cur:=cur) (by omega)
     have st:=Jv v (n:=n) (cur:=cur) (m:=min cur (n-cur)) (by omega) (by omega)
     have hs:=Cp v n cur 0 cur
     rw[List.drop_zero]at hs
     have tl:((xg v n cur).take cur).length=cur:=by rw[List.length_take];omega
     refine jO (st2:=⟨[.und,.und,.und,.und,.und,.ref 0 0 n,I ((cur+min cur (n-cur):Nat):Int)],[.arr 1 false 0 (xg v n (cur+min cur (n-cur)))]⟩) ?_ (ih _ (by omega) (by omega) (by omega))
     rw[← st]
     obtain⟨ts,hts⟩:=Xd v n cur
     have ao:∀a b c:Nat,fB 1 8 ((xg v n cur).take a)=true∧fB 1 8 (((xg v n cur).take a).take b)=true∧fB 1 8 ((xg v n cur).drop c)=true:=fun a b c=>by
      rw[hts,←List.map_take,←List.map_take,←List.map_drop]
      simp only[go_sem,and_self]
     have ao1:=fun a=>(ao a 0 0).1
     have ao2:=fun a b=>(ao a b 0).2.1
     have ao3:=fun c=>(ao 0 0 c).2.2
     clear ao hts
     generalize xg v n cur=es at*
     simp (disch:=omega) only[go_sem,K.cV,↓reduceIte,rl,hs,tl,ao1,ao2,ao3,and_self,List.drop_zero,Nat.sub_zero,Nat.reduceAdd,Nat.reduceSub]
theorem Jw(v:Int)(n:Nat)(h1:1≤n)(hn:n≤1000000):aO 1 N.bc [.t (tL [v]),I n] []=some (.ref 0 0 n,[.arr 1 false 0 (List.replicate n (I v))]):=by
 refine ax K.gI rfl ?_
 have m:=Xc 1 n (by omega) (by omega) (by omega)
 rw[Nat.one_mul]at m
 change aO 0 N.dD [.t (.int .u64 1),.t (.int .u64 n)] []=_ at m
 have w1:IntKind.u64.wrap 1=1:=by decide
 have w2:IntKind.u64.wrap (n:Int)=n:=Mt (by omega) (by omega)
 have w3:IntKind.i64.wrap (n:Int)=n:=uW (by omega) (by omega)
 have lp:=Eb v n hn n 1 (by omega) (by omega) h1
 have loop:∀z0 z1 z2 z3 z4:D,exS aO K.jQ ⟨[z0,z1,z2,z3,z4,.ref 0 0 n,I 1],[.arr 1 false 0 (I v::List.replicate (n-1) (I 0))]⟩=some (.exit 0,⟨[.und,.und,.und,.und,.und,.ref 0 0 n,I n],[.arr 1 false 0 (List.replicate n (I v))]⟩):=by
  intro z0 z1 z2 z3 z4
  have e1:xg v n 1=I v::List.replicate (n-1) (I 0):=rfl
  have e2:xg v n n=List.replicate n (I v):=by simp[xg]
  rw[e1,e2]at lp
  exact lp
 have dr:(List.replicate n (D.t (.int .i64 0))).drop 1=List.replicate (n-1) (I 0):=List.drop_replicate ..
 have mn:min 1 n=1:=by omega
 have ar:∀H:aj,qe H 8 (List.replicate n (I v))=[]:=fun H=>by
  have e:List.replicate n (I v)=(List.replicate n (tI v)).map D.t:=by simp
  rw[e]
  unfold qe
  exact Fu ..
 simp (disch:=omega) only[go_sem,K.bc,↓reduceIte,tL,List.map_cons,List.map_nil,m,w1,w2,w3,loop,dr,mn,ar,List.length_replicate,Nat.sub_zero,List.take_zero,List.nil_append,List.take_succ_cons,Nat.zero_add,Nat.reduceAdd,Nat.reduceSub]
end Go.Ev
namespace Go.Ev
open Go
variable [Lib] [cn] [bR]
structure Spn where
 low:Int
 high:Int
instance : Dat Spn := ⟨⟨0, 0⟩⟩
abbrev Spn.e(f:Spn):T:= .agg [tI f.low,tI f.high]
def Spn.ok(f:Spn):Prop:= -1125899906842624≤f.low∧f.high≤1125899906842624∧f.low≤f.high
instance (f : Spn) : Decidable f.ok := by unfold Spn.ok; infer_instance
def Jx(m:aT)(l:List Spn):Bool:=(List.range l.length).all (fun j=>decide (nth l j).ok)&&decide (l.length=m.roads.length)
def vj(x:Road)(f:Spn)(back:Bool):Int:=
 if x.closed=true then -1 else
 let g:=if back then -f.low else f.high
 let out:=if 0<g then(x.len*x.area*1000).tdiv g else -1
 if(if back then f.low<500*x.area else -500*x.area<f.high)∧(out<0∨x.len<out)then x.len else out
def Xe(l:List Int)(p q:Nat)(t:Int):Bool:=decide (0≤t∧nth l p+t<nth l q)
def acA(l:List Int)(p q:Nat)(t:Int):List Int:=if Xe l p q t=true then l.set q (nth l p+t)else l
def On(m:aT)(fl:List Spn)(k:Nat)(back:Bool)(l:List Int):List Int×Bool:=
 (acA l ((nth m.roads k).src back).toNat ((nth m.roads k).dst back).toNat (vj (nth m.roads k) (nth fl k) back),Xe l ((nth m.roads k).src back).toNat ((nth m.roads k).dst back).toNat (vj (nth m.roads k) (nth fl k) back))
def Xf(m:aT)(fl:List Spn)(k:Nat)(s:List Int×Bool):List Int×Bool:=
 let a:=On m fl k false s.1
 let b:=On m fl k true a.1
 (b.1,s.2||a.2||b.2)
def Jy(m:aT)(fl:List Spn)(l:List Int):Nat→List Int×Bool
 | 0=>(l,false)
 | k+1=>Xf m fl k (Jy m fl l k)
def Rl(m:aT)(fl:List Spn)(l:List Int):List Int×Bool:=Jy m fl l m.roads.length
section
variable {m : aT} (h : m.ok) {fl : List Spn}
include h
end
def ZT(l:List Int):Nat→List Int
 | 0=>l
 | j+1=>if 2147483648<nth (ZT l j) j then(ZT l j).set j 1099511627776 else ZT l j
def Oo(m:aT)(fl:List Spn)(l:List Int):List Int:=ZT (iW (Rl m fl) (xa l+1) l) m.places.length
end Go.Ev
namespace Go.Ev
open Go
variable [Lib] [cn] [bR]
def plS(t x:Int):Prop:=x=1099511627776∨(t≤x∧x≤2147483648)
instance (t x : Int) : Decidable (plS t x) := by unfold plS; infer_instance
def Jz(m:aT)(s:Wh):Bool:=(List.range s.frm.length).all (fun j=>decide (plS s.time (nth s.frm j)))&&decide (s.frm.length=m.places.length∧inT s.time)
def Rm(l:List Int)(t:Int)(n:Nat):List Int:=(List.range n).map fun(p:Nat)=>if(p:Int)∈l then t else 1099511627776
@[simp] theorem Xg (l : List Int) (t : Int) (n : Nat) : (Rm l t n).length = n := by simp [Rm]
def Xh(m:aT)(fl:List Spn)(l:List Int)(t:Int):Wh×Int:=
 if Jx m fl=false then(⟨0,[]⟩,6)else if rr l m.places.length=false then(⟨0,[]⟩,3)else if ¬inT t then(⟨0,[]⟩,8)else
 (⟨t,Oo m fl (Rm l t m.places.length)⟩,0)
def Oq(m:aT)(fl:List Spn)(frm:List Int)(t:Int)(k:Nat)(back:Bool)(l:List Int):List Int:=
 if nth frm ((nth m.roads k).src back).toNat≤t∧0≤vj (nth m.roads k) (nth fl k) back then l.set ((nth m.roads k).dst back).toNat (min (nth l ((nth m.roads k).dst back).toNat) t)else l
def Xi(m:aT)(fl:List Spn)(frm:List Int)(t:Int)(k:Nat)(l:List Int):List Int:=Oq m fl frm t k true (Oq m fl frm t k false l)
def chN(m:aT)(fl:List Spn)(frm:List Int)(t:Int):Nat→List Int
 | 0=>frm
 | k+1=>Xi m fl frm t k (chN m fl frm t k)
def acB(t:Int)(l:List Int):Nat→List Int
 | 0=>l
 | k+1=>(acB t l k).set k (max (nth (acB t l k) k) t)
def Rn(m:aT)(old:List Spn)(next:aT)(fl:List Spn)(s:Wh)(t:Int):Wh×Int:=
 if Jz m s=false∨Jx m old=false∨Jx next fl=false∨next.places.length≠m.places.length then(s,6)else
 if t<s.time∨2147483648<t then(s,8)else(⟨t,Oo next fl (acB t (chN m old s.frm t m.roads.length) m.places.length)⟩,0)
end Go.Ev
namespace Go.Ev
open Go
variable [Lib] [cn] [bR] [gg] [gh]
theorem Cq(a b lo hi:Int)(h1:lo≤a)(h2:a≤b)(h3:b≤hi):aO 0 N.fo [.t (.agg [tI a,tI b]),I lo,I hi] []=some (B true,[]):=by
 refine ax K.pG rfl ?_
 simp (disch:=omega) only[go_sem,K.fo,↓reduceIte,Nat.reduceAdd,Nat.reduceSub]
theorem Cr{m:aT}(h:m.ok):aO 0 N.hU [.t m.e] []=some (I 0,[]):=by
 refine ax K.qJ rfl ?_
 have np:=h.np
 have nr:=h.nr
 have hs:=h.hs
 have rs:=h.rs
 obtain⟨places,roads⟩:=m
 simp only at np nr hs rs
 have l1:∀z0 z2 z3 z4 z5 z9 z10 z11:D,exS aO K.uh ⟨[z0,.bp 0 0,z2,z3,z4,z5,.t (.sl (places.map Place.e)),I places.length,I 0,z9,z10,z11],[.box (ah ⟨places,roads⟩)]⟩=
  some (.exit 0,⟨[.und,.bp 0 0,.und,.und,.und,.und,.t (.sl (places.map Place.e)),I places.length,I places.length,.und,.und,.und],[.box (ah ⟨places,roads⟩)]⟩):=by
  intro z0 z2 z3 z4 z5 z9 z10 z11
  refine dC (fun j=>⟨[.und,.bp 0 0,.und,.und,.und,.und,.t (.sl (places.map Place.e)),I places.length,I j,.und,.und,.und],[.box (ah ⟨places,roads⟩)]⟩) places.length rfl ?_ ?_ (by simp)
  · intro j hj
    have g:(places.map Place.e)[j]?=some (nth places j).e:=cR _ hj
    have q:=hs _ (aa hj)
    generalize nth places j=x at*
    obtain⟨hh,sf⟩:=x
    simp only[ah]at*
    simp (disch:=omega) only[go_sem,K.nZ,↓reduceIte,g,Nat.reduceAdd,Nat.reduceSub]
  · simp (disch:=omega) only[go_sem,K.nZ,↓reduceIte,ah,Nat.reduceAdd,Nat.reduceSub]
 have l2:∀z0 z1 z2 z3 z5 z6 z7 z8:D,exS aO K.ui ⟨[z0,z1,z2,z3,I places.length,z5,z6,z7,z8,.t (.sl (roads.map Road.e)),I roads.length,I 0],[.box (ah ⟨places,roads⟩)]⟩=
  some (.exit 2,⟨[.und,.und,.und,.und,I places.length,.und,.und,.und,.und,.t (.sl (roads.map Road.e)),I roads.length,I roads.length],[.box (ah ⟨places,roads⟩)]⟩):=by
  intro z0 z1 z2 z3 z5 z6 z7 z8
  refine dC (fun j=>⟨[.und,.und,.und,.und,I places.length,.und,.und,.und,.und,.t (.sl (roads.map Road.e)),I roads.length,I j],[.box (ah ⟨places,roads⟩)]⟩) roads.length rfl ?_ ?_ (by simp)
  · intro j hj
    have g:(roads.map Road.e)[j]?=some (nth roads j).e:=cR _ hj
    have q:=rs _ (aa hj)
    generalize nth roads j=x at*
    have f0:=q.f0;have f1:=q.f1;have t0:=q.t0;have t1:=q.t1;have ne:=q.ne;have l0:=q.l0;have l1:=q.l1;have a0:=q.a0;have a1:=q.a1
    have r0:=q.r0;have r1:=q.r1;have r2:=q.r2;have i0:=q.i0;have i1:=q.i1;have i2:=q.i2
    clear q
    obtain⟨frm,to,len,area,walk,closed,rl,rh,ll,lh⟩:=x
    simp only[ah]at*
    have s1:=Cq rl rh 1 262144 r0 r1 r2
    have s2:=Cq ll lh (-2199023255552) 2199023255552 i0 i1 i2
    simp (disch:=omega) only[go_sem,K.n5,↓reduceIte,g,s1,s2,Nat.reduceAdd,Nat.reduceSub]
  · simp (disch:=omega) only[go_sem,K.n5,↓reduceIte,ah,Nat.reduceAdd,Nat.reduceSub]
 simp only[ah]at l1 l2
 simp (disch:=omega) only[go_sem,K.hU,↓reduceIte,l1,l2,Nat.reduceAdd,Nat.reduceSub]
theorem lq{m:aT}(h:m.ok):aO 0 N.dR [.t m.e] []=some (B true,[]):=by
 refine ax K.qI rfl ?_
 have c:=Cr h
 obtain⟨places,roads⟩:=m
 simp (disch:=omega) only[go_sem,K.dR,↓reduceIte,c,Nat.reduceAdd,Nat.reduceSub]
end Go.Ev
namespace Go.Ev.N
def G3:Nat:=178
def G4:Nat:=179
def H5:Nat:=180
def G5:Nat:=181
def H6:Nat:=182
def JA:Nat:=183
def H7:Nat:=184
def Ro:Nat:=185
def Ot:Nat:=186
def Rq:Nat:=187
def JB:Nat:=188
def fp:Nat:=189
def eh:Nat:=190
def Ou:Nat:=191
def Uf:Nat:=192
def Mv:Nat:=193
def dt:Nat:=194
def Rr:Nat:=195
def Ug:Nat:=196
def Xj:Nat:=197
def K8:Nat:=198
def b7:Nat:=199
def dS:Nat:=200
def cG:Nat:=201
def aX:Nat:=202
def Ov:Nat:=203
def aU:Nat:=204
def bY:Nat:=205
def Rs:Nat:=206
def Ow:Nat:=207
def cW:Nat:=208
def bf:Nat:=209
def bH:Nat:=210
def gQ:Nat:=211
def jh:Nat:=212
def ei:Nat:=213
def hX:Nat:=214
end Go.Ev.N
namespace Go.Ev.K
open Go.Ev
def mN:C:=(.its [u (.bin .lss v11 v10)] [] 0 .skip (.exit 0) (.seq (.blk 1 (.seq (.reg [m v11,a 1 v9 v11,g l0,w 7 (.mv l2),w 8 (.mv l1)] []) (.reg [f 1 v6,g l0,m v8,f 1 v3,g l0,m v7,a 1 l1 l0,g l0,u (.mn [.l 5,.l 0]),u (.bs [.l 0] 1),u (.app l8 l0 true 1),f 1 v6,u (.st l0 l1 1 [])] [(1,10)]))) (.reg [u (.bin .add v11 (.i 1)),w 11 (.mv l0)] [])))
def rZ:C:= .loop true [0,1,2,5,7,8] K.mN
def fp:Fn:={ nargs:=2,vars:=[0,1,2,3,4,5,6,7,8,24,25,26],body:=(.seq (.reg [w 2 (.bx v0 2),w 3 (.bx v1 2),w 4 (.al [.t (.int .i64 (0)),.nil] []),w 5 (.mv (.i 0))] []) (.seq (.ite [f 1 v2,g l0,u (.ln l0),f 1 v3,g l0,u (.ln l0),u (.bin .neq l3 l0)] [] 0 (.seq (.reg [u (.bd [.t (.int .i64 (0)),.nil] []),u (.st v4 l0 2 []),w 5 (.mv (.i 6))] []) .ret) .skip) (.seq (.reg [f 0 v2,g l0,f 0 v3,g l0,u (.mx [.l 2,.l 0]),u (.bd [.t (.int .i64 (0)),.nil] [(0,1,.l 0)]),w 6 (.al [.t (.int .i64 (0)),.nil] [(1,1)]),u (.st l0 l1 2 [(1,1)])] []) (.seq (.seq (.reg [f 1 v2,w 9 (.ld l0 1 false),w 10 (.ln l0),w 11 (.mv (.i 0))] []) (.blk 0 K.rZ)) (.seq (.reg [h 2 v6,u (.st v4 l0 2 []),w 5 (.mv (.i 0))] []) .ret))))),res:=[(4,some (2,true)),(5,none)]}
def eh:Fn:={ nargs:=2,vars:=[0,1,2,3,4],body:=(.seq (.reg [w 2 (.bx v0 2),w 3 (.bx v1 2),w 4 (.mv (.b false))] []) (.seq (.reg [h 2 v2,u (.ca N.dR 0 [] [.l 0]),m l0,y 0 true (.ld v2 2 true),y 1 true (.ld v3 2 true),y 2 true (.ca N.cG 0 [] [.l 1,.l 0]),u (.pk l3 l0 (.b false)),m l0,y 0 true (.ld v2 2 true),y 1 true (.fa v3 1),y 2 true (.ld l0 1 false),y 3 true (.fa v3 0),y 4 true (.ld l0 1 false),y 5 true (.ca N.b7 0 [] [.l 4,.l 2,.l 0,.c (.fn N.dS [])]),y 6 true (.fa v3 1),y 7 true (.ld l0 1 false),y 8 true (.ca N.aX 0 [] [.l 2,.l 0]),u (.pk l9 l0 (.b false)),w 4 (.mv l0)] [(15,6)]) .ret)),res:=[(4,none)]}
end Go.Ev.K
namespace Go.Ev
class i5 [Lib]:Prop where
 pH:Lib.fs N.fp=some K.fp
 n9:Lib.fs N.eh=some K.eh
namespace K
variable [Lib] [i5]
theorem pH:Lib.fs N.fp=some K.fp:=i5.pH
theorem n9:Lib.fs N.eh=some K.eh:=i5.n9
end K
end Go.Ev
namespace Go.Ev.K
open Go.Ev
def dt:Fn:={ nargs:=3,vars:=[0,1,2,3,4,6,7],body:=(.seq (.reg [w 3 (.bx v0 2),w 4 (.bx v1 2),w 5 (.al [.t (.int .i64 (0)),.nil] []),w 6 (.mv (.i 0))] []) (.seq (.ite [h 2 v3,u (.ca N.dR 0 [] [.l 0]),u (.un .not l0),m l0,y 0 false (.ld v3 2 true),y 1 false (.ld v4 2 true),y 2 false (.ca N.cG 0 [] [.l 1,.l 0]),y 3 false (.un .not l0),u (.pk l4 (.b true) l0)] [] 0 (.seq (.reg [h 2 v4,u (.st v5 l0 2 []),w 6 (.mv (.i 6))] []) .ret) .skip) (.seq (.ite [m v2,f 0 v4,g l0,u (.bin .lss l2 l0),m l0,y 0 false (.mv v2),y 1 false (.bin .gtr l0 (.i 2147483648)),u (.pk l2 (.b true) l0)] [] 0 (.seq (.reg [h 2 v4,u (.st v5 l0 2 []),w 6 (.mv (.i 8))] []) .ret) .skip) (.seq (.reg [m v2,h 2 v3,f 1 v4,g l0,m v2,u (.ca N.b7 0 [] [.l 3,.l 1,.l 0,.c (.fn N.dS [])]),u (.bd [.t (.int .i64 (0)),.nil] [(0,1,.l 5),(1,1,.l 0)]),u (.st v5 l0 2 []),w 6 (.mv (.i 0))] []) .ret)))),res:=[(5,some (2,true)),(6,none)]}
def cP:C:=(.seq (.ite [g v9] [] 0 .skip (.exit 0)) (.seq (.blk 1 (.seq (.reg [u (.st v9 (.b false) 1 [])] []) (.reg [h 2 v4,g v8,u (.mf N.bf [.v 5,.v 8,.v 6,.v 9]),u (.ca N.cW 0 [1] [.l 2,.l 1,.l 0])] []))) (.seq (.reg [w 10 (.ld v9 1 false)] []) (.reg [w 9 (.al [.t (.bool false)] []),u (.st l0 v10 1 [])] []))))
def kK:C:= .loop false [0,1,2,3,7,10] K.cP
def b7:Fn:={ nargs:=4,vars:=[0,1,2,3,4,6,7,8,9,10,18],body:=(.seq (.reg [w 4 (.bx v0 2),w 5 (.bx v2 1),w 6 (.bx v3 1),w 7 (.mv (.c (.nil)))] []) (.seq (.reg [m v1,u (.ca N.aU 1 [] [.l 0]),w 8 (.al [.nil] []),u (.st l0 l1 1 [])] []) (.seq (.seq (.reg [w 9 (.al [.t (.bool false)] []),u (.st l0 (.b true) 1 [])] []) (.blk 0 K.kK)) (.seq (.reg [g v8,w 7 (.mv l0)] []) .ret)))),res:=[(7,none)]}
def dS:Fn:={ nargs:=1,vars:=[2],body:=(.seq (.reg [w 0 (.mv (.b false))] []) (.seq (.reg [w 0 (.mv (.b true))] []) .ret)),res:=[(0,none)]}
def cG:Fn:={ nargs:=2,vars:=[0,1,2,3,4],body:=(.seq (.reg [w 2 (.bx v0 2),w 3 (.bx v1 2),w 4 (.mv (.b false))] []) (.seq (.reg [f 1 v3,g l0,u (.ln l0),f 0 v2,g l0,u (.ln l0),u (.bin .eql l3 l0),m l0,y 0 true (.fa v3 0),y 1 true (.ld l0 1 false),y 2 true (.ca N.eu 0 [] [.l 0,.i 0,.i 2147483648]),u (.pk l3 l0 (.b false)),m l0,y 0 true (.fa v3 1),y 1 true (.ld l0 1 false),y 2 true (.ca N.az 0 [] [.l 0,.c (.fn N.bH [])]),y 3 true (.un .not l0),u (.pk l4 l0 (.b false)),w 4 (.mv l0)] []) .ret)),res:=[(4,none)]}
def eB:C:=(.its [u (.bin .lss v5 v4)] [] 0 .skip (.exit 0) (.seq (.blk 1 (.seq (.reg [m v5,w 3 (.mv l0)] []) (.ite [m v0,m v3,a 1 l1 l0,g l0,m v1,m v3,a 1 l1 l0,g l0,u (.bin .neq l4 l0)] [] 0 (.seq (.reg [w 2 (.mv (.b false))] []) .ret) .skip))) (.reg [u (.bin .add v5 (.i 1)),w 5 (.mv l0)] [])))
def kf:C:= .loop true [2,3] K.eB
def aX:Fn:={ nargs:=2,vars:=[0,1,4,5,12,13],body:=(.seq (.reg [w 2 (.mv (.b false))] []) (.seq (.ite [m v0,u (.ln l0),m v1,u (.ln l0),u (.bin .neq l2 l0)] [] 0 (.seq (.reg [w 2 (.mv (.b false))] []) .ret) .skip) (.seq (.seq (.reg [m v0,w 4 (.ln l0),w 5 (.mv (.i 0))] []) (.blk 0 K.kf)) (.seq (.reg [w 2 (.mv (.b true))] []) .ret)))),res:=[(2,none)]}
def aU:Fn:={ nargs:=1,vars:=[0,2],body:=(.seq (.reg [w 1 (.mv (.c (.nil)))] []) (.itk [m v0,u (.eqk (.sl) false l0 (.c (.nil)))] [] 0 (.seq (.reg [w 1 (.nw 1)] []) .ret) .skip (.seq (.reg [u (.bsr [] 1),m v0,u (.app l1 l0 false 1),w 1 (.mv l0)] []) .ret))),res:=[(1,none)]}
def bY:Fn:={ nargs:=2,vars:=[0,1,3],body:=(.seq (.reg [w 2 (.mv (.b false))] []) (.seq (.reg [g v1,m v0,u (.ca N.aM 0 [] [.l 1,.l 0]),w 2 (.mv l0)] []) .ret)),res:=[(2,none)]}
def dT:C:=(.its [u (.bin .lss v14 (.i 2))] [] 0 .skip (.exit 2) (.seq (.blk 3 (.seq (.reg [u (.ix v13 v14 2 1 false),w 6 (.mv l0)] []) (.seq (.reg [f 0 v5,g l0,f 1 v5,g l0,w 7 (.mv l2),w 8 (.mv l1)] []) (.seq (.ite [m v6] [] 0 (.reg [m v8,m v7,w 7 (.mv l1),w 8 (.mv l1)] []) .skip) (.seq (.reg [h 2 v3,m v4,m v6,u (.ca N.gQ 0 [] [.l 2,.l 1,.l 0]),w 9 (.mv l0)] []) (.ite [m v9,u (.bin .geq l0 (.i 0)),m l0,y 0 true (.mv v1),y 1 true (.mv v7),y 2 true (.ia l1 l0 1),y 3 true (.ld l0 1 false),y 4 true (.bin .lss l0 (.i 1099511627776)),u (.pk l5 l0 (.b false))] [] 0 (.reg [m v2,m v7,m v8,m v1,m v7,a 1 l1 l0,g l0,m v9,u (.bin .add l1 l0),u (.cw l8 0 [] [.l 7,.l 6,.l 0])] []) .skip)))))) (.reg [u (.bin .add v14 (.i 1)),w 14 (.mv l0)] [])))
def nB:C:= .loop true [0,6,7,8,9] K.dT
def gJ:C:=(.its [u (.bin .lss v12 v11)] [] 0 .skip (.exit 0) (.seq (.blk 1 (.seq (.reg [m v12,a 10 v10 v12,h 10 l0,w 5 (.al [.t (.int .i64 (0)),.t (.int .i64 (0)),.t (.int .i64 (0)),.t (.int .i64 (0)),.t (.bool false),.t (.bool false),.t (.int .i64 (0)),.t (.int .i64 (0)),.t (.int .i64 (0)),.t (.int .i64 (0))] []),w 4 (.mv l3),u (.st l1 l2 10 [])] []) (.seq (.reg [w 13 (.bd [.t (.bool false),.t (.bool false)] [(0,1,.b false),(1,1,.b true)]),w 14 (.mv (.i 0))] []) (.blk 2 K.nB)))) (.reg [u (.bin .add v12 (.i 1)),w 12 (.mv l0)] [])))
def nC:C:= .loop true [0,4,5,6,7,8,9,13,14] K.gJ
def cW:Fn:={ nargs:=3,vars:=[0,1,2,3,6,7,9,10,11,12,14,15,16,21,22],body:=(.seq (.reg [w 3 (.bx v0 2)] []) (.seq (.reg [f 1 v3,w 10 (.ld l0 1 false),w 11 (.ln l0),w 12 (.mv (.i 0))] []) (.blk 0 K.nC))),res:=[]}
def bf:Fn:={ nargs:=7,vars:=[1,2,3,4,5,6],body:=(.seq (.reg [m v1,g v2,u (.mx [.l 1,.l 0]),w 1 (.mv l0)] []) (.ite [m v1,u (.bin .leq l0 (.i 2147483648)),m l0,y 0 true (.mv v1),y 1 true (.ld v3 1 false),y 2 true (.mv v0),y 3 true (.ia l1 l0 1),y 4 true (.ld l0 1 false),y 5 true (.bin .lss l4 l0),u (.pk l6 l0 (.b false)),m l0,y 0 true (.ld v4 1 false),y 1 true (.mv v0),y 2 true (.cw l1 0 [] [.l 0]),u (.pk l3 l0 (.b false))] [] 0 (.reg [g v3,m v0,m v1,a 1 l2 l1,u (.st l0 l1 1 []),u (.st v5 (.b true) 1 [])] []) .skip)),res:=[]}
def bH:Fn:={ nargs:=1,vars:=[0,2],body:=(.seq (.reg [w 1 (.mv (.b false))] []) (.seq (.reg [m v0,u (.bin .neq l0 (.i 1099511627776)),m l0,y 0 true (.mv v0),y 1 true (.ca N.eu 0 [] [.l 0,.i 0,.i 2147483648]),y 2 true (.un .not l0),u (.pk l3 l0 (.b false)),w 1 (.mv l0)] []) .ret)),res:=[(1,none)]}
def gQ:Fn:={ nargs:=3,vars:=[0,1,2,3,6],body:=(.seq (.reg [w 3 (.bx v0 2),w 4 (.mv (.i 0))] []) (.seq (.ite [h 2 v3,u (.ca N.dR 0 [] [.l 0]),u (.un .not l0),m l0,y 0 false (.mv v1),y 1 false (.bin .lss l0 (.i 0)),u (.pk l2 (.b true) l0),m l0,y 0 false (.mv v1),y 1 false (.fa v3 1),y 2 false (.ld l0 1 false),y 3 false (.ln l0),y 4 false (.bin .geq l3 l0),u (.pk l5 (.b true) l0)] [] 0 (.seq (.reg [w 4 (.mv (.i (-1)))] []) .ret) .skip) (.seq (.reg [h 2 v3,m v1,m v2,u (.ca N.jh 0 [] [.l 2,.l 1,.l 0]),w 4 (.mv l0)] []) .ret))),res:=[(4,none)]}
def jh:Fn:={ nargs:=3,vars:=[0,1,2,3,6],body:=(.seq (.reg [w 3 (.bx v0 2),w 4 (.mv (.i 0))] []) (.seq (.reg [h 2 v3,m v1,m v2,u (.ca N.hX 0 [] []),u (.ca N.ei 0 [] [.l 3,.l 2,.l 1,.l 0]),w 4 (.mv l0)] [(0,4)]) .ret)),res:=[(4,none)]}
def ei:Fn:={ nargs:=4,vars:=[0,1,2,3,4,7,8,9,10,11],body:=(.seq (.reg [w 4 (.bx v0 2),w 5 (.bx v3 3),w 6 (.mv (.i 0))] []) (.seq (.reg [f 1 v4,g l0,m v1,a 10 l1 l0,h 10 l0,w 7 (.al [.t (.int .i64 (0)),.t (.int .i64 (0)),.t (.int .i64 (0)),.t (.int .i64 (0)),.t (.bool false),.t (.bool false),.t (.int .i64 (0)),.t (.int .i64 (0)),.t (.int .i64 (0)),.t (.int .i64 (0))] []),u (.st l0 l1 10 [])] []) (.seq (.ite [f 5 v7,g l0,m l0,y 0 false (.fa v7 4),y 1 false (.ld l0 1 false),y 2 false (.un .not l0),u (.pk l3 (.b true) l0)] [] 0 (.seq (.reg [w 6 (.mv (.i (-1)))] []) .ret) .skip) (.seq (.reg [f 0 v4,g l0,f 1 v7,g l0,a 2 l2 l0,f 0 l0,g l0,f 0 v4,g l0,f 0 v7,g l0,a 2 l2 l0,f 0 l0,g l0,u (.bin .sub l7 l0),w 8 (.mv l0)] []) (.seq (.ite [m v2] [] 0 (.reg [m v8,u (.un .neg l0),w 8 (.mv l0)] []) .skip) (.seq (.reg [f 2 v5,g l0,w 9 (.mv l0)] []) (.seq (.blk 0 (.ite [m v8,u (.bin .mul (.i 10) l0),f 2 v7,g l0,u (.bin .gtr l2 l0),m l0] [] 0 (.reg [f 0 v5,g l0,w 9 (.mv l0)] []) (.ite [m v8,u (.bin .mul (.i (-10)) l0),f 2 v7,g l0,u (.bin .gtr l2 l0),m l0] [] 0 (.reg [f 1 v5,g l0,w 9 (.mv l0)] []) .skip))) (.seq (.reg [f 2 v7,g l0,u (.bin .mul (.i 10) l0),m v9,u (.bin .add l1 l0),u (.bin .sub l0 (.i 1)),m v9,u (.bin .quo l1 l0),w 6 (.mv l0)] []) .ret)))))))),res:=[(6,none)]}
def hX:Fn:={ nargs:=0,vars:=[0],body:=(.seq (.reg [w 0 (.al [.t (.int .i64 (0)),.t (.int .i64 (0)),.t (.int .i64 (0))] [])] []) (.seq (.reg [u (.bd [.t (.int .i64 (0)),.t (.int .i64 (0)),.t (.int .i64 (0))] [(0,1,.i 6),(1,1,.i 9),(2,1,.i 12)]),u (.st v0 l0 3 [])] []) .ret)),res:=[(0,some (3,true))]}
end Go.Ev.K
namespace Go.Ev
class gK [Lib]:Prop where
 oa:Lib.fs N.dt=some K.dt
 jz:Lib.fs N.b7=some K.b7
 qK:Lib.fs N.dS=some K.dS
 mO:Lib.fs N.cG=some K.cG
 ig:Lib.fs N.aX=some K.aX
 ij:Lib.fs N.aU=some K.aU
 kL:Lib.fs N.bY=some K.bY
 kM:Lib.fs N.cW=some K.cW
 kg:Lib.fs N.bf=some K.bf
 kN:Lib.fs N.bH=some K.bH
 sN:Lib.fs N.gQ=some K.gQ
 sO:Lib.fs N.jh=some K.jh
 sP:Lib.fs N.ei=some K.ei
 qL:Lib.fs N.hX=some K.hX
namespace K
variable [Lib] [gK]
theorem oa:Lib.fs N.dt=some K.dt:=gK.oa
theorem jz:Lib.fs N.b7=some K.b7:=gK.jz
theorem qK:Lib.fs N.dS=some K.dS:=gK.qK
theorem mO:Lib.fs N.cG=some K.cG:=gK.mO
theorem ig:Lib.fs N.aX=some K.aX:=gK.ig
theorem ij:Lib.fs N.aU=some K.aU:=gK.ij
theorem kL:Lib.fs N.bY=some K.bY:=gK.kL
theorem kM:Lib.fs N.cW=some K.cW:=gK.kM
theorem kg:Lib.fs N.bf=some K.bf:=gK.kg
theorem kN:Lib.fs N.bH=some K.bH:=gK.kN
theorem sN:Lib.fs N.gQ=some K.gQ:=gK.sN
theorem sO:Lib.fs N.jh=some K.jh:=gK.sO
theorem sP:Lib.fs N.ei=some K.ei:=gK.sP
theorem qL:Lib.fs N.hX=some K.hX:=gK.qL
end K
end Go.Ev
namespace Go.Ev
open Go
variable [Lib] [cn] [bR] [gg] [gh] [i5] [gK]
abbrev Dt(l:List Int):Obj:= .arr 1 false 0 ((l.map (T.int .i64)).map .t)
theorem ym(l:List Int)(hl:l.length≤1000000):aO 1 N.aU [.t (tL l)] []=some (.ref 0 0 l.length,[Dt l]):=by
 refine ax K.ij rfl ?_
 by_cases h0:l=[]
 · subst h0
   simp only[tL,List.map_nil]
   simp (disch:=omega) only[go_sem,K.aU,↓reduceIte,List.map_nil,List.length_nil,Nat.reduceAdd,Nat.reduceSub]
   rfl
 · have e:=fun H=>w8 H (l.map (T.int .i64)) (by simpa using h0)
   simp (disch:=omega) only[go_sem,K.aU,↓reduceIte,e,Nat.reduceAdd,Nat.reduceSub]
theorem xh(a b:List Int)(hl:a.length≤4294967296)(hl2:b.length≤4294967296):aO 0 N.aX [.t (tL a),.t (tL b)] []=some (B (decide (a=b)),[]):=by
 refine ax K.ig rfl ?_
 by_cases hlen:a.length=b.length
 · have loop:∀z2 z3:D,exS aO K.kf ⟨[.t (tL a),.t (tL b),z2,z3,I a.length,I 0],[]⟩=
    some (match (List.range a.length).find? (fun j=>decide (nth a j≠nth b j))with
     | some j=>(.ret,⟨[.t (tL a),.t (tL b),B false,I j,I a.length,I j],[]⟩)
     | none=>(.exit 0,⟨[.t (tL a),.t (tL b),.und,.und,I a.length,I a.length],[]⟩)):=by
    intro z2 z3
    refine cF (fun j=>⟨[.t (tL a),.t (tL b),.und,.und,I a.length,I j],[]⟩) a.length (fun j=>decide (nth a j≠nth b j)) _ _ rfl ?_ ?_ ?_ (by simp)
    · intro j hj hp
      have hp:nth a j=nth b j:=by simpa using hp
      simp (disch:=omega) only[go_sem,K.eB,↓reduceIte,Nat.reduceAdd,Nat.reduceSub]
    · intro j hj hp
      have hp:nth a j≠nth b j:=by simpa using hp
      simp (disch:=omega) only[go_sem,K.eB,↓reduceIte,Nat.reduceAdd,Nat.reduceSub]
      simp
    · simp (disch:=omega) only[go_sem,K.eB,↓reduceIte,Nat.reduceAdd,Nat.reduceSub]
   have e:(a=b)↔(List.range a.length).find? (fun j=>decide (nth a j≠nth b j))=none:=by
    rw[List.find?_eq_none]
    constructor
    · intro h j _;simp[h]
    · intro h
      apply List.ext_getElem?
      intro j
      by_cases hj:j<a.length
      · rw[iP hj,iP (by omega)]
        have:=h j (List.mem_range.2 hj)
        simpa using this
      · rw[List.getElem?_eq_none (by omega),List.getElem?_eq_none (by omega)]
   cases hf:(List.range a.length).find? (fun j=>decide (nth a j≠nth b j))with
   | some j=>
     rw[hf]at e loop
     have e:¬a=b:=fun h=>by have:=e.1 h;cases this
     simp (disch:=omega) only[go_sem,K.aX,↓reduceIte,loop,e,decide_false,Nat.reduceAdd,Nat.reduceSub]
   | none=>
     rw[hf]at e loop
     have e:a=b:=e.2 rfl
     simp (disch:=omega) only[go_sem,K.aX,↓reduceIte,loop,decide_eq_true e,Nat.reduceAdd,Nat.reduceSub]
 · have hne:a≠b:=fun h=>hlen (by rw[h])
   simp (disch:=omega) only[go_sem,K.aX,↓reduceIte,hne,decide_false,Nat.reduceAdd,Nat.reduceSub]
theorem Mw:aO 0 N.hX [] []=some (.t (.agg [tI 6,tI 9,tI 12]),[]):=by
 refine ax K.qL rfl ?_
 simp (disch:=omega) only[go_sem,K.hX,↓reduceIte,Nat.reduceAdd,Nat.reduceSub]
theorem Rt{m:aT}(h:m.ok)(k:Nat)(hk:k<m.roads.length)(back:Bool)(up down level:Int)(hu:1≤up)(hu2:up≤100)(hd:1≤down)(hd2:down≤100)(hl:1≤level)(hl2:level≤100):
 aO 0 N.ei [.t m.e,I k,B back,.t (.agg [tI up,tI down,tI level])] []=some (I (dI m k back up down level),[]):=by
 refine ax K.sP rfl ?_
 have nr:=h.nr
 have np:=h.np
 obtain⟨f0,f1,t0,t1, -,l0,l1, -, -, -, -, -, -, -, -⟩:=h.rs _ (aa hk)
 have b1:=h.hs _ (aa (l:=m.places) (j:=(nth m.roads k).frm.toNat) (by omega))
 have b2:=h.hs _ (aa (l:=m.places) (j:=(nth m.roads k).to.toNat) (by omega))
 have g:(m.roads.map Road.e)[k]?=some (nth m.roads k).e:=cR _ hk
 have p1:(m.places.map Place.e)[(nth m.roads k).frm.toNat]?=some (nth m.places (nth m.roads k).frm.toNat).e:=cR _ (by omega)
 have p2:(m.places.map Place.e)[(nth m.roads k).to.toNat]?=some (nth m.places (nth m.roads k).to.toNat).e:=cR _ (by omega)
 have key:∀h1 h2:Int, -10000≤h1→h1≤10000→ -10000≤h2→h2≤10000→IntKind.i64.wrap (h1-h2)=h1-h2∧IntKind.i64.wrap (-(h1-h2))=h2-h1:=fun h1 h2 _ _ _ _=>⟨uW (by omega) (by omega),by rw[uW (by omega) (by omega)];omega⟩
 unfold dI
 generalize nth m.roads k=x at*
 obtain⟨frm,to,len,area,walk,closed,rl,rh,ll,lh⟩:=x
 simp only at f0 f1 t0 t1 l0 l1 b1 b2 p1 p2 ⊢
 cases closed with
 | true=>
   obtain⟨places,roads⟩:=m
   simp (disch:=omega) only[go_sem,K.ei,↓reduceIte,g,Nat.reduceAdd,Nat.reduceSub]
 | false=>
   cases walk with
   | false=>
     obtain⟨places,roads⟩:=m
     simp (disch:=omega) only[go_sem,K.ei,↓reduceIte,g,Nat.reduceAdd,Nat.reduceSub]
   | true=>
     have g1:=sJ (a:=10*len+up-1) (b:=up) (by omega) hu
     have g2:=sJ (a:=10*len+down-1) (b:=down) (by omega) hd
     have g3:=sJ (a:=10*len+level-1) (b:=level) (by omega) hl
     cases back with
     | true=>
       simp only[↓reduceIte]
       generalize nth m.places frm.toNat=q1 at*
       generalize nth m.places to.toNat=q2 at*
       obtain⟨h1,s1⟩:=q1
       obtain⟨h2,s2⟩:=q2
       obtain⟨places,roads⟩:=m
       simp only at*
       obtain⟨w2,w3⟩:=key h2 h1 (by omega) (by omega) (by omega) (by omega)
       by_cases c2:len< -10*(h1-h2)
       · simp (disch:=omega) only[go_sem,K.ei,↓reduceIte,g,p1,p2,w2,w3,gt_iff_lt,Int.zero_sub,Nat.reduceAdd,Nat.reduceSub]
       · by_cases c1:len<10*(h1-h2)
         · simp (disch:=omega) only[go_sem,K.ei,↓reduceIte,g,p1,p2,w2,w3,gt_iff_lt,Int.zero_sub,Nat.reduceAdd,Nat.reduceSub]
         · simp (disch:=omega) only[go_sem,K.ei,↓reduceIte,g,p1,p2,w2,w3,gt_iff_lt,Int.zero_sub,Nat.reduceAdd,Nat.reduceSub]
     | false=>
       simp only[Bool.false_eq_true,↓reduceIte]
       generalize nth m.places frm.toNat=q1 at*
       generalize nth m.places to.toNat=q2 at*
       obtain⟨h1,s1⟩:=q1
       obtain⟨h2,s2⟩:=q2
       obtain⟨places,roads⟩:=m
       simp only at*
       obtain⟨w2,w3⟩:=key h2 h1 (by omega) (by omega) (by omega) (by omega)
       by_cases c2:len< -10*(h2-h1)
       · simp (disch:=omega) only[go_sem,K.ei,↓reduceIte,g,p1,p2,w2,gt_iff_lt,Nat.reduceAdd,Nat.reduceSub]
       · by_cases c1:len<10*(h2-h1)
         · simp (disch:=omega) only[go_sem,K.ei,↓reduceIte,g,p1,p2,w2,gt_iff_lt,Nat.reduceAdd,Nat.reduceSub]
         · simp (disch:=omega) only[go_sem,K.ei,↓reduceIte,g,p1,p2,w2,gt_iff_lt,Nat.reduceAdd,Nat.reduceSub]
theorem AQ{m:aT}(h:m.ok)(k:Nat)(hk:k<m.roads.length)(back:Bool):aO 0 N.gQ [.t m.e,I k,B back] []=some (I (dI m k back 6 9 12),[]):=by
 have q:=Mw
 have w:=Rt h k hk back 6 9 12 (by omega) (by omega) (by omega) (by omega) (by omega) (by omega)
 have v:=lq h
 have nr:=h.nr
 have s:aO 0 N.jh [.t m.e,I k,B back] []=some (I (dI m k back 6 9 12),[]):=by
  refine ax K.sO rfl ?_
  generalize dI m k back 6 9 12=r at*
  obtain⟨places,roads⟩:=m
  simp (disch:=omega) only[go_sem,K.jh,↓reduceIte,q,w,Nat.reduceAdd,Nat.reduceSub]
 refine ax K.sN rfl ?_
 generalize dI m k back 6 9 12=r at*
 obtain⟨places,roads⟩:=m
 simp only at*
 simp (disch:=omega) only[go_sem,K.gQ,↓reduceIte,v,s,Nat.reduceAdd,Nat.reduceSub]
theorem Ru(q:Int):aO 0 N.dS [I q] []=some (B true,[]):=by
 refine ax K.qK rfl ?_
 simp (disch:=omega) only[go_sem,K.dS,↓reduceIte,Nat.reduceAdd,Nat.reduceSub]
theorem Mx(q:Int)(l:List Int)(hl:l.length≤4294967296):aO 0 N.bY [I q,.bp 0 0] [.box [.t (tL l)]]=some (B (decide (q∈l)),[.box [.t (tL l)]]):=by
 refine ax K.kL rfl ?_
 have c:=pC l q hl
 simp (disch:=omega) only[go_sem,K.bY,↓reduceIte,c,Nat.reduceAdd,Nat.reduceSub]
def smE(into:Option (List Int)):aj:=match into with
 | none=>[]
 | some s=>[.box [.t (tL s)]]
def smD(into:Option (List Int)):D:=match into with
 | none=> .fn N.dS []
 | some _=> .fn N.bY [.bp 5 0]
def smK(into:Option (List Int)):Nat:=match into with
 | none=>5
 | some _=>6
@[go_sem] theorem adM (H : aj) (len j : Nat) (ts : List T) (h : j < len) : VF H len 1 false (.t (.agg ts)) j = (ts[j]?).map fun t => (.t t, H) := by
 have h0:len≠0:=by omega
 unfold VF zp
 rw[if_neg h0,if_pos h]
 unfold tc cut
 simp only[D.isAgg,D.cells,T.cells,if_true,Nat.mul_one,List.length_map]
 by_cases hj:j<ts.length
 · rw[if_pos (by omega),List.getElem?_eq_getElem hj]
   have e:((ts.map D.t).drop j).take 1=[D.t ts[j]]:=by
    rw[List.drop_eq_getElem_cons (by simpa using hj)];simp
   rw[e];rfl
 · rw[if_neg (by omega),List.getElem?_eq_none (by omega)];rfl
def JC(into:Option (List Int))(l:List Int)(q:Nat)(x:Int):Bool:=decide (x≤2147483648∧x<nth l q)&&Jf into q
theorem Rv(into:Option (List Int))(hi:∀s,into=some s→s.length≤64)(l:List Int)(hl:l.length≤64)(hb:bnd l)(p:Int)(q:Nat)(hq:q<l.length)(n t:Int)(ch:Bool):
 aO 0 N.bf [I p,I q,I n,.bp 0 0,.bp 1 0,.bp 2 0,.bp 3 0] (.box [I t]:: .box [.ref 4 0 l.length]:: .box [smD into]:: .box [B ch]::Dt l::smE into)=
  some (.tup [],if JC into l q (max n t)=true then .box [I t]:: .box [.ref 4 0 l.length]:: .box [smD into]:: .box [B true]::Dt (l.set q (max n t))::smE into
   else .box [I t]:: .box [.ref 4 0 l.length]:: .box [smD into]:: .box [B ch]::Dt l::smE into):=by
 refine ax K.kg rfl ?_
 have ln:(l.set q (max n t)).length=l.length:=List.length_set ..
 have a:=Ru q
 have b:=hb _ (aa hq)
 unfold JC
 cases into with
 | none=>
   simp only[smE,smD,Jf,Bool.and_true,decide_eq_true_eq]
   by_cases c1:max n t≤2147483648
   · by_cases c2:max n t<nth l q
     · simp (disch:=omega) only[go_sem,K.bf,↓reduceIte,a,c1,c2,and_self,Nat.reduceAdd,Nat.reduceSub]
     · simp (disch:=omega) only[go_sem,K.bf,↓reduceIte,c1,c2,and_false,Nat.reduceAdd,Nat.reduceSub]
   · simp (disch:=omega) only[go_sem,K.bf,↓reduceIte,c1,false_and,Nat.reduceAdd,Nat.reduceSub]
 | some s=>
   have a2:=Mx q s (by have:=hi s rfl;omega)
   simp only[smE,smD,Jf]
   by_cases c1:max n t≤2147483648
   · by_cases c2:max n t<nth l q
     · by_cases c3:(q:Int)∈s
       · simp only[c3,decide_true]at a2
         simp (disch:=omega) only[go_sem,K.bf,↓reduceIte,a2,c1,c2,c3,and_self,decide_true,Bool.and_true,Nat.reduceAdd,Nat.reduceSub]
       · simp only[c3,decide_false]at a2
         simp (disch:=omega) only[go_sem,K.bf,↓reduceIte,a2,c1,c2,c3,and_self,decide_false,Bool.and_false,Nat.reduceAdd,Nat.reduceSub]
     · simp (disch:=omega) only[go_sem,K.bf,↓reduceIte,c1,c2,and_false,decide_false,Bool.false_and,Nat.reduceAdd,Nat.reduceSub]
   · simp (disch:=omega) only[go_sem,K.bf,↓reduceIte,c1,false_and,decide_false,Bool.false_and,Nat.reduceAdd,Nat.reduceSub]
theorem My{m:aT}(h:m.ok)(t:Int)(into:Option (List Int)){k:Nat}(hk:k<m.roads.length)(back:Bool)(l:List Int):
 eQ m t into k back l=if 0≤dI m k back 6 9 12∧nth l ((nth m.roads k).src back).toNat<1099511627776∧JC into l ((nth m.roads k).dst back).toNat (max (nth l ((nth m.roads k).src back).toNat+dI m k back 6 9 12) t)=true
  then(l.set ((nth m.roads k).dst back).toNat (max (nth l ((nth m.roads k).src back).toNat+dI m k back 6 9 12) t),true)else(l,false):=by
 have r2:=Road.ya (h.rs _ (aa hk)) back
 unfold eQ JC mH lT
 have e:(((nth m.roads k).dst back).toNat:Int)=(nth m.roads k).dst back:=by omega
 rw[e]
 generalize (nth m.roads k).dst back=d at*
 generalize ((nth m.roads k).src back).toNat=s at*
 generalize dI m k back 6 9 12=v at*
 rw[Int.max_comm t]
 generalize max (nth l s+v) t=x at*
 cases Jf into d with
 | false=>simp
 | true=>
   simp only[↓reduceIte,Bool.and_true,Bool.and_eq_true,decide_eq_true_eq]
   by_cases c:((0≤v∧nth l s<1099511627776)∧x≤2147483648)∧x<nth l d.toNat
   · obtain⟨⟨⟨c1,c2⟩,c3⟩,c4⟩:=c
     simp[c1,c2,c3,c4]
   · have c':¬(0≤v∧nth l s<1099511627776∧x≤2147483648∧x<nth l d.toNat):=fun h=>c ⟨⟨⟨h.1,h.2.1⟩,h.2.2.1⟩,h.2.2.2⟩
     rw[if_neg c,if_neg c']
     simp only[Prod.mk.injEq,true_and]
     have:(decide (0≤v)&&decide (nth l s<1099511627776)&&decide (x≤2147483648)&&decide (x<nth l d.toNat))=false:=by
      rw[Bool.eq_false_iff];intro h;simp only[Bool.and_eq_true,decide_eq_true_eq]at h;exact c h
     exact this
abbrev JD:D:= .fn N.bf [.bp 1 0,.bp 2 0,.bp 3 0,.bp 4 0]
abbrev yn(into:Option (List Int))(t:Int)(s:List Int×Bool):aj:=Dt s.1:: .box [I t]:: .box [.ref 0 0 s.1.length]:: .box [smD into]:: .box [B s.2]::smE into
abbrev vk(x:Road):List D:=[I x.frm,I x.to,I x.len,I x.area,B x.walk,B x.closed,I x.restL,I x.restH,I x.liftL,I x.liftH]
theorem zO{m:aT}(h:m.ok)(t:Int)(ht:0≤t)(ht2:t≤1000000000000)(into:Option (List Int))(hi:∀s,into=some s→s.length≤64)(l:List Int)(hl:l.length=m.places.length)(hb:bnd l)(ch:Bool){k:Nat}(hk:k<m.roads.length)(back:Bool):
 eY true [0,6,7,8,9] (yn into t (l,ch)++[Obj.box (ah m),Obj.box (vk (nth m.roads k))]).length (exS aO K.dT ⟨[.und,.ref 0 0 l.length,JD,.bp (smK into) 0,I k,.bp (smK into+1) 0,.und,.und,.und,.und,.t (.sl (m.roads.map Road.e)),I m.roads.length,I k,.t (.agg [.bool false,.bool true]),I (if back then 1 else 0:Nat)],yn into t (l,ch)++[.box (ah m),.box (vk (nth m.roads k))]⟩)=
  some ⟨[.und,.ref 0 0 l.length,JD,.bp (smK into) 0,I k,.bp (smK into+1) 0,.und,.und,.und,.und,.t (.sl (m.roads.map Road.e)),I m.roads.length,I k,.t (.agg [.bool false,.bool true]),I ((if back then 1 else 0:Nat)+1)],yn into t ((eQ m t into k back l).1,ch||(eQ m t into k back l).2)++[.box (ah m),.box (vk (nth m.roads k))]⟩:=by
 have np:=h.np
 have nr:=h.nr
 have ok:=h.rs _ (aa hk)
 have r1:=Road.tA ok back
 have r2:=Road.ya ok back
 have wt:=AQ h k hk back
 have wl:=AG h k hk back
 have b1:=hb _ (aa (l:=l) (j:=((nth m.roads k).src back).toNat) (by omega))
 have lo:=Rv into hi l (by omega) hb ((nth m.roads k).src back) ((nth m.roads k).dst back).toNat (by omega) (nth l ((nth m.roads k).src back).toNat+dI m k back 6 9 12) t ch
 have e:(((nth m.roads k).dst back).toNat:Int)=(nth m.roads k).dst back:=by omega
 rw[e]at lo
 rw[My h t into hk back l]
 have ls:∀x,(l.set ((nth m.roads k).dst back).toNat x).length=l.length:=fun x=>List.length_set ..
 generalize dI m k back 6 9 12=v at*
 generalize hx:nth m.roads k=x at*
 clear hx ok
 obtain⟨frm,to,len,area,walk,closed,rl,rh,ll,lh⟩:=x
 obtain⟨places,roads⟩:=m
 simp only at hl np nr hk
 have h01:(1:Int)=0+1:=rfl
 by_cases c1:0≤v
 · by_cases c2:nth l ((Road.mk frm to len area walk closed rl rh ll lh).src back).toNat<1099511627776
   · cases c3:JC into l ((Road.mk frm to len area walk closed rl rh ll lh).dst back).toNat (max (nth l ((Road.mk frm to len area walk closed rl rh ll lh).src back).toNat+v) t)<;>
     cases back<;>simp only[Road.src,Road.dst,Bool.false_eq_true,↓reduceIte]at* <;>simp only[c1,c2,c3,and_true,true_and,and_self,and_false,Bool.false_eq_true,↓reduceIte]at lo ⊢ <;>
     cases into<;>simp only[smE,smD,smK,ah,vk,yn,List.cons_append,List.nil_append]at* <;>
     simp (disch:=omega) only[go_sem,K.dT,↓reduceIte,wt,lo,c1,c2,ls,Bool.or_true,Bool.or_false,Nat.reduceAdd,Nat.reduceSub]
   · cases back<;>simp only[Road.src,Road.dst,Bool.false_eq_true,↓reduceIte]at* <;>simp only[c1,c2,false_and,and_false,↓reduceIte]<;>
     cases into<;>simp only[smE,smD,smK,ah,vk,yn,List.cons_append,List.nil_append]at* <;>
     simp (disch:=omega) only[go_sem,K.dT,↓reduceIte,wt,c1,c2,Bool.or_false,Nat.reduceAdd,Nat.reduceSub]
 · cases back<;>simp only[Road.src,Road.dst,Bool.false_eq_true,↓reduceIte]at* <;>simp only[c1,false_and,↓reduceIte]<;>
   cases into<;>simp only[smE,smD,smK,ah,vk,yn,List.cons_append,List.nil_append]at* <;>
   simp (disch:=omega) only[go_sem,K.dT,↓reduceIte,wt,c1,Bool.or_false,Nat.reduceAdd,Nat.reduceSub]
theorem Mz{m:aT}(h:m.ok)(t:Int)(ht:0≤t)(ht2:t≤1000000000000)(into:Option (List Int))(hi:∀s,into=some s→s.length≤64)(l:List Int)(hl:l.length=m.places.length)(hb:bnd l)(ch:Bool){k:Nat}(hk:k<m.roads.length):
 eY true [0,4,5,6,7,8,9,13,14] (yn into t (l,ch)++[Obj.box (ah m)]).length (exS aO K.gJ ⟨[.und,.ref 0 0 l.length,JD,.bp (smK into) 0,.und,.und,.und,.und,.und,.und,.t (.sl (m.roads.map Road.e)),I m.roads.length,I k,.und,.und],yn into t (l,ch)++[.box (ah m)]⟩)=
  some ⟨[.und,.ref 0 0 (sK m t into k (l,ch)).1.length,JD,.bp (smK into) 0,.und,.und,.und,.und,.und,.und,.t (.sl (m.roads.map Road.e)),I m.roads.length,I (k+1),.und,.und],yn into t (sK m t into k (l,ch))++[.box (ah m)]⟩:=by
 have nr:=h.nr
 have g:(m.roads.map Road.e)[k]?=some (nth m.roads k).e:=cR _ hk
 have h1:=zO h t ht ht2 into hi l hl hb ch hk false
 have l1:(eQ m t into k false l).1.length=l.length:=oF ..
 have l2:(eQ m t into k true (eQ m t into k false l).1).1.length=l.length:=by rw[oF,l1]
 have h2:=zO h t ht ht2 into hi (eQ m t into k false l).1 (by omega) (qG h hl hb hk false) (ch||(eQ m t into k false l).2) hk true
 have st:sK m t into k (l,ch)=((eQ m t into k true (eQ m t into k false l).1).1,ch||(eQ m t into k false l).2||(eQ m t into k true (eQ m t into k false l).1).2):=rfl
 rw[st]
 simp only[l1,l2,Bool.false_eq_true,↓reduceIte]at h1 h2 ⊢
 have inner:∀z0 z6 z7 z8 z9:D,exS aO K.nB ⟨[z0,.ref 0 0 l.length,JD,.bp (smK into) 0,I k,.bp (smK into+1) 0,z6,z7,z8,z9,.t (.sl (m.roads.map Road.e)),I m.roads.length,I k,.t (.agg [.bool false,.bool true]),I 0],yn into t (l,ch)++[.box (ah m),.box (vk (nth m.roads k))]⟩=
  some (.exit 2,⟨[.und,.ref 0 0 l.length,JD,.bp (smK into) 0,I k,.bp (smK into+1) 0,.und,.und,.und,.und,.t (.sl (m.roads.map Road.e)),I m.roads.length,I k,.t (.agg [.bool false,.bool true]),I 2],
   yn into t ((eQ m t into k true (eQ m t into k false l).1).1,ch||(eQ m t into k false l).2||(eQ m t into k true (eQ m t into k false l).1).2)++[.box (ah m),.box (vk (nth m.roads k))]⟩):=by
  intro z0 z6 z7 z8 z9
  refine dC (fun j=>⟨[.und,.ref 0 0 l.length,JD,.bp (smK into) 0,I k,.bp (smK into+1) 0,.und,.und,.und,.und,.t (.sl (m.roads.map Road.e)),I m.roads.length,I k,.t (.agg [.bool false,.bool true]),I j],
   yn into t (match j with | 0=>(l,ch) | 1=>((eQ m t into k false l).1,ch||(eQ m t into k false l).2) | _=>((eQ m t into k true (eQ m t into k false l).1).1,ch||(eQ m t into k false l).2||(eQ m t into k true (eQ m t into k false l).1).2))++[.box (ah m),.box (vk (nth m.roads k))]⟩) 2 rfl ?_ ?_ (by simp)
  · intro j hj
    have hj2:j=0∨j=1:=by omega
    rcases hj2 with rfl | rfl
    · exact h1
    · exact h2
  · clear h1 h2
    cases into<;>simp only[smE,smD,smK,ah,vk,yn,List.cons_append,List.nil_append]<;>
    simp (disch:=omega) only[go_sem,K.dT,↓reduceIte,Nat.reduceAdd,Nat.reduceSub]
 clear h1 h2 st
 generalize eQ m t into k true (eQ m t into k false l).1=b2 at*
 generalize eQ m t into k false l=b1 at*
 generalize hx:nth m.roads k=x at*
 clear hx
 obtain⟨frm,to,len,area,walk,closed,rl,rh,ll,lh⟩:=x
 obtain⟨places,roads⟩:=m
 simp only at nr hk
 cases into<;>simp only[smE,smD,smK,ah,vk,yn,List.cons_append,List.nil_append]at* <;>
 simp (disch:=omega) only[go_sem,K.gJ,↓reduceIte,g,inner,l2,Nat.reduceAdd,Nat.reduceSub]
theorem Ec{m:aT}(h:m.ok)(t:Int)(ht:0≤t)(ht2:t≤1000000000000)(into:Option (List Int))(hi:∀s,into=some s→s.length≤64)(l:List Int)(hl:l.length=m.places.length)(hb:bnd l)(ch:Bool):
 aO 0 N.cW [.t m.e,.ref 0 0 l.length,JD] (yn into t (l,ch))=some (.tup [],yn into t ((c8 m t into l).1,ch||(c8 m t into l).2)):=by
 refine ax K.kM rfl ?_
 have nr:=h.nr
 have ls:=fun k=>dq m t into l k
 have loop:∀z0 z4 z5 z6 z7 z8 z9 z13 z14:D,exS aO K.nC ⟨[z0,.ref 0 0 l.length,JD,.bp (smK into) 0,z4,z5,z6,z7,z8,z9,.t (.sl (m.roads.map Road.e)),I m.roads.length,I 0,z13,z14],yn into t (l,ch)++[.box (ah m)]⟩=
  some (.exit 0,⟨[.und,.ref 0 0 l.length,JD,.bp (smK into) 0,.und,.und,.und,.und,.und,.und,.t (.sl (m.roads.map Road.e)),I m.roads.length,I m.roads.length,.und,.und],yn into t ((c8 m t into l).1,ch||(c8 m t into l).2)++[.box (ah m)]⟩):=by
  intro z0 z4 z5 z6 z7 z8 z9 z13 z14
  refine dC (fun j=>⟨[.und,.ref 0 0 l.length,JD,.bp (smK into) 0,.und,.und,.und,.und,.und,.und,.t (.sl (m.roads.map Road.e)),I m.roads.length,I j,.und,.und],yn into t ((ez m t into l j).1,ch||(ez m t into l j).2)++[.box (ah m)]⟩) m.roads.length ?_ ?_ ?_ (by simp)
  · simp only[ez,Bool.or_false];rfl
  · intro j hj
    have r:=Mz h t ht ht2 into hi (ez m t into l j).1 (by rw[ls,hl]) (gZ h hl hb j (by omega)) (ch||(ez m t into l j).2) hj
    have e:sK m t into j ((ez m t into l j).1,ch||(ez m t into l j).2)=((ez m t into l (j+1)).1,ch||(ez m t into l (j+1)).2):=by
     simp only[ez,sK,Bool.or_assoc]
    rw[e]at r
    simp only[ls]at r
    exact r
  · clear ls
    cases into<;>simp only[smE,smD,smK,ah,vk,yn,List.cons_append,List.nil_append]<;>
    simp (disch:=omega) only[go_sem,K.gJ,↓reduceIte,c8,Nat.reduceAdd,Nat.reduceSub]
 have l2:(c8 m t into l).1.length=l.length:=by unfold c8;rw[ls]
 clear ls
 generalize c8 m t into l=r at*
 obtain⟨r1,r2⟩:=r
 obtain⟨places,roads⟩:=m
 simp only at nr hl l2
 cases into<;>simp only[smE,smD,smK,ah,vk,yn,List.cons_append,List.nil_append]at* <;>
 simp (disch:=omega) only[go_sem,K.cW,↓reduceIte,loop,l2,Nat.reduceAdd,Nat.reduceSub]
section
variable (a0 a1 a2 a3 a4 a5 x y : Obj) (ds : aj)
theorem Ox:(a0::a1::a2::a3::a4::(ds++[x]))[ds.length+5]?=some x:=by simp
theorem Xk:(a0::a1::a2::a3::a4::(ds++[x])).set (ds.length+5) y=a0::a1::a2::a3::a4::(ds++[y]):=by simp
theorem Oy:(a0::a1::a2::a3::a4::a5::(ds++[x]))[ds.length+6]?=some x:=by simp
theorem Xl:(a0::a1::a2::a3::a4::a5::(ds++[x])).set (ds.length+6) y=a0::a1::a2::a3::a4::a5::(ds++[y]):=by simp
theorem Oz(u:Obj):(ds++[u]++[x])[ds.length+1]?=some x:=by simp
theorem Rw(u:Obj):(a0::a1::a2::a3::a4::(ds++[u]++[x])).set (ds.length+1+1+1+1+1+1) y=a0::a1::a2::a3::a4::(ds++[u]++[y]):=by simp
theorem Rx(u:Obj):(a0::a1::a2::a3::a4::a5::(ds++[u]++[x])).set (ds.length+1+1+1+1+1+1+1) y=a0::a1::a2::a3::a4::a5::(ds++[u]++[y]):=by simp
theorem Xm:(ds++[x]).length=ds.length+1:=by simp
end
@[go_sem] theorem ZU (n : Nat) : eqB n n = true := by
 induction n with
 | zero=>rfl
 | succ n ih=>exact ih
abbrev OA(m:aT)(into:Option (List Int))(t:Int)(l:List Int)(ds:aj)(c:Bool):aj:=match into with
 | none=> .box (ah m):: .box [I t]:: .box [.fn N.dS []]::Dt l:: .box [.ref 3 0 l.length]::(ds++[.box [B c]])
 | some s=> .box [.t (tL s)]:: .box (ah m):: .box [I t]:: .box [.fn N.bY [.bp 0 0]]::Dt l:: .box [.ref 4 0 l.length]::(ds++[.box [B c]])
abbrev Ed(m:aT)(into:Option (List Int))(t:Int)(l:List Int)(ds:aj)(c:Bool):St:=match into with
 | none=>⟨[.und,.und,.und,.und,.bp 0 0,.bp 1 0,.bp 2 0,.und,.bp 4 0,.bp (ds.length+5) 0,.und],OA m none t l ds c⟩
 | some s=>⟨[.und,.und,.und,.und,.bp 1 0,.bp 2 0,.bp 3 0,.und,.bp 5 0,.bp (ds.length+6) 0,.und],OA m (some s) t l ds c⟩
theorem JE{m:aT}(h:m.ok)(t:Int)(ht:0≤t)(ht2:t≤1000000000000)(into:Option (List Int))(hi:∀s,into=some s→s.length≤64)(l:List Int)(hl:l.length=m.places.length)(hb:bnd l)(ds:aj)(k:Nat):
 eY false [0,1,2,3,7,10] k (exS aO K.cP (Ed m into t l ds true))=some (Ed m into t (c8 m t into l).1 (ds++[.box [B (c8 m t into l).2]]) (c8 m t into l).2):=by
 have nr:=h.nr
 have ar:=Ec h t ht ht2 into hi l hl hb false
 have l2:(c8 m t into l).1.length=l.length:=by unfold c8;rw[dq]
 cases into with
 | none=>
   generalize c8 m t none l=r at*
   obtain⟨r1,r2⟩:=r
   obtain⟨places,roads⟩:=m
   simp only[OA,Ed,yn,smE,smD,ah,Bool.false_or]at*
   simp (disch:=omega) only[go_sem,K.cP,↓reduceIte,ar,Ox,Xk,Xm,l2,Oz,Rw,Nat.reduceAdd,Nat.reduceSub]
 | some s=>
   generalize c8 m t (some s) l=r at*
   obtain⟨r1,r2⟩:=r
   obtain⟨places,roads⟩:=m
   simp only[OA,Ed,yn,smE,smD,ah,Bool.false_or]at*
   simp (disch:=omega) only[go_sem,K.cP,↓reduceIte,ar,Oy,Xl,Xm,l2,Oz,Rx,Nat.reduceAdd,Nat.reduceSub]
theorem MA(m:aT)(into:Option (List Int))(t:Int)(l:List Int)(ds:aj):exS aO K.cP (Ed m into t l ds false)=some (.exit 0,Ed m into t l ds false):=by
 obtain⟨places,roads⟩:=m
 cases into with
 | none=>
   simp only[OA,Ed,ah]
   simp (disch:=omega) only[go_sem,K.cP,↓reduceIte,Ox,Nat.reduceAdd,Nat.reduceSub]
 | some s=>
   simp only[OA,Ed,ah]
   simp (disch:=omega) only[go_sem,K.cP,↓reduceIte,Oy,Nat.reduceAdd,Nat.reduceSub]
theorem AR{m:aT}(h:m.ok)(t:Int)(ht:0≤t)(ht2:t≤1000000000000)(into:Option (List Int))(hi:∀s,into=some s→s.length≤64):∀(n:Nat) (l:List Int) (ds:aj),xa l<n→l.length=m.places.length→bnd l→
 ∃ds',mz false [0,1,2,3,7,10] (exS aO K.cP) (Ed m into t l ds true)=some (.exit 0,Ed m into t (iW (c8 m t into) n l) ds' false)
 | 0,l,ds,hn,_,_=>absurd hn (by omega)
 | n+1,l,ds,hn,hl,hb=>by
   have r:=JE h t ht ht2 into hi l hl hb ds (Ed m into t l ds true).H.length
   have s:=(oG h (t:=t) (into:=into) hl hb m.roads.length (Nat.le_refl _)).1
   change (c8 m t into l).2=true→xa (c8 m t into l).1<xa l at s
   unfold iW
   cases hc:(c8 m t into l).2 with
   | true=>
     rw[hc]at r
     obtain⟨ds',h2⟩:=AR h t ht ht2 into hi n (c8 m t into l).1 _ (by have:=s hc;omega) (by unfold c8;rw[dq,hl]) (gZ h hl hb _ (Nat.le_refl _))
     exact⟨ds',jO r h2⟩
   | false=>
     rw[hc]at r
     exact⟨_,jO r (dk (MA m into t _ _) (by simp))⟩
theorem zP{m:aT}(h:m.ok)(t:Int)(ht:0≤t)(ht2:t≤1000000000000)(l:List Int)(hl:l.length=m.places.length)(hb:bnd l):
 aO 0 N.b7 [.t m.e,.t (tL l),I t,.fn N.dS []] []=some (.t (tL (cK m t none l)),[])∧
 ∀s:List Int,s.length≤64→aO 1 N.b7 [.t m.e,.t (tL l),I t,.fn N.bY [.bp 0 0]] [.box [.t (tL s)]]=some (.ref 1 0 l.length,[.box [.t (tL s)],Dt (cK m t (some s) l)]):=by
 have np:=h.np
 have c1:=ym l (by omega)
 have ln:∀into,(cK m t into l).length=l.length:=by
  intro into
  have key:∀n l,(iW (c8 m t into) n l).length=l.length:=by
   intro n
   induction n with
   | zero=>intro l;rfl
   | succ n ih=>
     intro l
     unfold iW
     split
     · rw[ih];unfold c8;rw[dq]
     · unfold c8;rw[dq]
  exact key _ _
 refine⟨ax K.jz rfl ?_,fun s hs=>ax K.jz rfl ?_⟩
 · obtain⟨ds,lp⟩:=AR h t ht ht2 none (by simp) (xa l+1) l [] (Nat.lt_succ_self _) hl hb
   have ln:=ln none
   have lp:∀z0 z1 z2 z3 z7 z10:D,exS aO K.kK ⟨[z0,z1,z2,z3,.bp 0 0,.bp 1 0,.bp 2 0,z7,.bp 4 0,.bp 5 0,z10],[.box (ah m),.box [I t],.box [.fn N.dS []],Dt l,.box [.ref 3 0 l.length],.box [B true]]⟩=some (.exit 0,Ed m none t (cK m t none l) ds false):=fun z0 z1 z2 z3 z7 z10=>lp
   generalize cK m t none l=r at*
   obtain⟨places,roads⟩:=m
   simp only[OA,Ed,ah]at*
   simp (disch:=omega) only[go_sem,K.b7,↓reduceIte,c1,lp,ln,Nat.reduceAdd,Nat.reduceSub]
 · obtain⟨ds,lp⟩:=AR h t ht ht2 (some s) (by intro s' h;cases h;exact hs) (xa l+1) l [] (Nat.lt_succ_self _) hl hb
   have l2:=ln (some s)
   clear ln
   have lp:∀z0 z1 z2 z3 z7 z10:D,exS aO K.kK ⟨[z0,z1,z2,z3,.bp 1 0,.bp 2 0,.bp 3 0,z7,.bp 5 0,.bp 6 0,z10],[.box [.t (tL s)],.box (ah m),.box [I t],.box [.fn N.bY [.bp 0 0]],Dt l,.box [.ref 4 0 l.length],.box [B true]]⟩=some (.exit 0,Ed m (some s) t (cK m t (some s) l) ds false):=fun z0 z1 z2 z3 z7 z10=>lp
   generalize cK m t (some s) l=r at*
   obtain⟨places,roads⟩:=m
   simp only[OA,Ed,ah]at*
   simp (disch:=omega) only[go_sem,K.b7,↓reduceIte,c1,lp,l2,Nat.reduceAdd,Nat.reduceSub]
end Go.Ev
namespace Go.Ev
open Go
variable [Lib] [cn] [bR]
theorem uk{gc:Bool}{dead:List Nat}{c:C}{vs:List D}{H:aj}(s:Nat→St)(n:Nat)(p:Nat→Bool)(P:Nat→Ex×St→Prop)(eN:Ex×St)
 (h0:(⟨jA dead vs,H⟩:St)=s 0) (hs:∀j,j<n→p j=false→eY gc dead (s j).H.length (exS aO c (s j))=some (s (j+1)))
 (he:∀j,j<n→p j=true→∃q,exS aO c (s j)=some q∧q.1≠ .normal∧P j q) (hN:exS aO c (s n)=some eN) (hn:eN.1≠ .normal):
 ((List.range n).find? p=none∧exS aO (.loop gc dead c) ⟨vs,H⟩=some eN)∨∃j q,(List.range n).find? p=some j∧exS aO (.loop gc dead c) ⟨vs,H⟩=some q∧P j q:=by
 classical
 let e:Nat→Ex×St:=fun j=>if h:j<n∧p j=true then Classical.choose (he j h.1 h.2)else eN
 have h2:∀j,j<n→p j=true→exS aO c (s j)=some (e j)∧(e j).1≠ .normal∧P j (e j):=by
  intro j hj hp
  have e1:e j=Classical.choose (he j hj hp):=dif_pos ⟨hj,hp⟩
  rw[e1]
  exact Classical.choose_spec (he j hj hp)
 have:=cF s n p e eN h0 hs (fun j hj hp=>⟨(h2 j hj hp).1,(h2 j hj hp).2.1⟩) hN hn
 cases hf:(List.range n).find? p with
 | none=>rw[hf]at this;exact .inl ⟨rfl,this⟩
 | some j=>
   rw[hf]at this
   obtain⟨h3,h4⟩:=x8 hf
   exact .inr ⟨j,e j,rfl,this,(h2 j h3 h4).2.2⟩
def qM(a b:List Int):Bool:=match (List.range (min a.length b.length)).find? (fun j=>decide (nth a j≠nth b j))with
 | some j=>decide (nth a j<nth b j)
 | none=>decide (a.length<b.length)
theorem Ee(a b:List Int)(ha:a.length≤1000000)(hb:b.length≤1000000):aO 0 N.gq [.t (tL a),.t (tL b)] []=some (B (qM a b),[]):=by
 refine ax K.qB rfl ?_
 have loop:∀c:D,exS aO K.tY ⟨[.t (tL a),.t (tL b),c,I 0],[]⟩=
  some (match (List.range (min a.length b.length)).find? (fun j=>decide (nth a j≠nth b j))with
   | some j=>(.ret,⟨[.t (tL a),.t (tL b),B (decide (nth a j<nth b j)),I j],[]⟩)
   | none=>(.exit 0,⟨[.t (tL a),.t (tL b),.und,I (min a.length b.length:Nat)],[]⟩)):=by
  intro c
  refine cF (fun j=>⟨[.t (tL a),.t (tL b),.und,I j],[]⟩) (min a.length b.length) (fun j=>decide (nth a j≠nth b j)) _ _ rfl ?_ ?_ ?_ (by simp)
  · intro j hj hp
    have hp:nth a j=nth b j:=by simpa using hp
    simp (disch:=omega) only[go_sem,K.gY,↓reduceIte]
  · intro j hj hp
    have hp:nth a j≠nth b j:=by simpa using hp
    refine⟨?_,by simp⟩
    by_cases h1:nth a j<nth b j
    · simp (disch:=omega) only[go_sem,K.gY,↓reduceIte,h1,decide_true]
    · simp (disch:=omega) only[go_sem,K.gY,↓reduceIte,h1,decide_false]
  · by_cases h1:a.length≤b.length
    · have e:min a.length b.length=a.length:=by omega
      rw[e]
      simp (disch:=omega) only[go_sem,K.gY,↓reduceIte]
    · have e:min a.length b.length=b.length:=by omega
      rw[e]
      simp (disch:=omega) only[go_sem,K.gY,↓reduceIte]
 unfold qM
 simp (disch:=omega) only[go_sem,K.gq,↓reduceIte,loop]
 cases hf:(List.range (min a.length b.length)).find? (fun j=>decide (nth a j≠nth b j))with
 | some j=>simp (disch:=omega) only[go_sem,↓reduceIte]
 | none=>
   by_cases h1:a.length<b.length
   · simp (disch:=omega) only[go_sem,↓reduceIte,h1,decide_true]
   · simp (disch:=omega) only[go_sem,↓reduceIte,h1,decide_false]
def bM(l:List Int)(x:Int):Int:=match (List.range l.length).find? (fun j=>decide (nth l j=x))with
 | some j=>j
 | none=> -1
theorem mP(l:List Int)(x:Int)(hl:l.length≤1000000):aO 0 N.cM [.t (tL l),I x] []=some (I (bM l x),[]):=by
 refine ax K.nU rfl ?_
 have loop:∀c:D,exS aO K.qw ⟨[.t (tL l),I x,c,I 0],[]⟩=
  some (match (List.range l.length).find? (fun j=>decide (nth l j=x))with
   | some j=>(.ret,⟨[.t (tL l),I x,I j,I j],[]⟩)
   | none=>(.exit 0,⟨[.t (tL l),I x,.und,I l.length],[]⟩)):=by
  intro c
  refine cF (fun j=>⟨[.t (tL l),I x,.und,I j],[]⟩) l.length (fun j=>decide (nth l j=x)) _ _ rfl ?_ ?_ ?_ (by simp)
  · intro j hj hp
    have hp:¬nth l j=x:=by simpa using hp
    simp (disch:=omega) only[go_sem,K.jy,↓reduceIte]
  · intro j hj hp
    have hp:nth l j=x:=by simpa using hp
    refine⟨?_,by simp⟩
    simp (disch:=omega) only[go_sem,K.jy,↓reduceIte,hp]
  · simp (disch:=omega) only[go_sem,K.jy,↓reduceIte]
 unfold bM
 simp (disch:=omega) only[go_sem,K.cM,↓reduceIte,loop]
 cases hf:(List.range l.length).find? (fun j=>decide (nth l j=x))with
 | some j=>simp (disch:=omega) only[go_sem,↓reduceIte]
 | none=>simp (disch:=omega) only[go_sem,↓reduceIte]
theorem vl{l:List Int}{x:Int}(h:0≤bM l x):bM l x<l.length∧nth l (bM l x).toNat=x:=by
 unfold bM at h ⊢
 cases hf:(List.range l.length).find? (fun j=>decide (nth l j=x))with
 | some j=>
   obtain⟨h1,h2⟩:=x8 hf
   simp only[Int.toNat_natCast]
   exact⟨by omega,of_decide_eq_true h2⟩
 | none=>rw[hf]at h;simp at h
def mQ(l:List Int)(j:Nat):Bool:=decide (1≤nth l j∧nth l j≤65535∧bM (l.take j) (nth l j)<0)
def eH(l:List Int):Bool:=(List.range l.length).all (mQ l)
theorem Cs(l:List Int)(hl:l.length≤1000000):aO 0 N.ec [.t (tL l)] []=some (B (eH l),[]):=by
 refine ax K.nN rfl ?_
 have loop:∀c:D,exS aO K.qu ⟨[.t (tL l),c,I 0],[]⟩=
  some (match (List.range l.length).find? (fun j=> !mQ l j)with
   | some j=>(.ret,⟨[.t (tL l),B false,I j],[]⟩)
   | none=>(.exit 0,⟨[.t (tL l),.und,I l.length],[]⟩)):=by
  intro c
  refine cF (fun j=>⟨[.t (tL l),.und,I j],[]⟩) l.length (fun j=> !mQ l j) _ _ rfl ?_ ?_ ?_ (by simp)
  · intro j hj hp
    have hp:mQ l j=true:=by simpa using hp
    have b:=mP (l.take j) (nth l j) (by rw[List.length_take];omega)
    simp only[mQ,decide_eq_true_eq]at hp
    simp only[tL,List.map_take]at b
    simp (disch:=omega) only[go_sem,K.fM,↓reduceIte,b]
  · intro j hj hp
    have hp:mQ l j=false:=by simpa using hp
    have b:=mP (l.take j) (nth l j) (by rw[List.length_take];omega)
    simp only[mQ,decide_eq_false_iff_not]at hp
    simp only[tL,List.map_take]at b
    refine⟨?_,by simp⟩
    by_cases h1:nth l j<1
    · simp (disch:=omega) only[go_sem,K.fM,↓reduceIte,b]
    · by_cases h2:65535<nth l j
      · simp (disch:=omega) only[go_sem,K.fM,↓reduceIte,b]
      · simp (disch:=omega) only[go_sem,K.fM,↓reduceIte,b]
  · simp (disch:=omega) only[go_sem,K.fM,↓reduceIte]
 unfold eH
 rw[pB]
 simp (disch:=omega) only[go_sem,K.ec,↓reduceIte,loop]
 cases hf:(List.range l.length).find? (fun j=> !mQ l j)with
 | some j=>simp (disch:=omega) only[go_sem,↓reduceIte,Option.isNone]
 | none=>simp (disch:=omega) only[go_sem,↓reduceIte,Option.isNone]
structure World where
 tags:List Int
 whr:List Wh
instance : Dat World := ⟨⟨[], []⟩⟩
abbrev World.e(x:World):T:= .agg [tL x.tags,.sl (x.whr.map Wh.e)]
structure Bel where
 worlds:List World
instance : Dat Bel := ⟨⟨[]⟩⟩
abbrev Bel.e(b:Bel):T:= .agg [.sl (b.worlds.map World.e)]
def World.sz(x:World):Prop:=x.tags.length≤1000000∧x.whr.length≤1000000∧∀w∈x.whr,w.frm.length≤1000000
def Bel.sz(b:Bel):Prop:=b.worlds.length≤1000000∧∀x∈b.worlds,x.sz
@[go_sem] theorem Ry (l : List Wh) : cm 2 (l.map Wh.e) = true := nu 2 _ (fun _ => rfl) l
@[go_sem] theorem K9 (l : List World) : cm 2 (l.map World.e) = true := nu 2 _ (fun _ => rfl) l
@[go_sem] theorem ZV (l : List Wh) : nK 2 (l.map Wh.e) = true := by cases l <;> rfl
@[go_sem] theorem Rz (l : List World) : nK 2 (l.map World.e) = true := by cases l <;> rfl
theorem r5(x:World)(h:x.sz)(a:D):exS aO K.nq ⟨[a,.bp 0 0,.bp 1 0,.bp 3 0,I 0],[.box [.t (tL x.tags),.t (.sl (x.whr.map Wh.e))],.box [.nil,.nil],.arr 1 false 0 ((x.tags.map (T.int .i64)).map .t),.box [.ref 2 0 x.tags.length,.ref 5 0 0],.arr 2 false 0 [],.arr 2 false 0 []]⟩=
 some (.exit 0,⟨[.und,.bp 0 0,.bp 1 0,.bp 3 0,I x.whr.length],[.box [.t (tL x.tags),.t (.sl (x.whr.map Wh.e))],.box [.nil,.nil],.arr 1 false 0 ((x.tags.map (T.int .i64)).map .t),.box [.ref 2 0 x.tags.length,.ref 5 0 x.whr.length],.arr 2 false 0 [],.arr 2 false 0 ((x.whr.map Wh.e).map .t)]⟩):=by
 obtain⟨tags,whr⟩:=x
 obtain⟨h1,h2,h3⟩:=h
 simp only at h1 h2 h3 ⊢
 have tk:whr.take whr.length=whr:=by simp
 refine dC (fun j=>⟨[.und,.bp 0 0,.bp 1 0,.bp 3 0,I j],[.box [.t (tL tags),.t (.sl (whr.map Wh.e))],.box [.nil,.nil],.arr 1 false 0 ((tags.map (T.int .i64)).map .t),.box [.ref 2 0 tags.length,.ref 5 0 (whr.take j).length],.arr 2 false 0 [],.arr 2 false 0 (((whr.take j).map Wh.e).map .t)]⟩) whr.length rfl ?_ ?_ (by simp)
 · intro j hj
   have c:=AJ (nth whr j) (by have:=h3 _ (aa hj);omega)
   have lt:(whr.take j).length=j:=by rw[List.length_take];omega
   generalize hx:nth whr j=w at*
   obtain⟨time,frm⟩:=w
   have tk:whr.take (j+1)=whr.take j++[⟨time,frm⟩]:=by rw[iv hj,hx]
   generalize whr.take j=pre at*
   simp (disch:=omega) only[go_sem,K.jB,↓reduceIte,hx,c,lt,tk,Nat.reduceAdd,Nat.reduceSub]
 · simp (disch:=omega) only[go_sem,K.jB,↓reduceIte,tk]
theorem Ct(x:World)(h:x.sz):aO 0 N.bz [.t x.e] []=some (.t x.e,[]):=by
 refine ax K.iN rfl ?_
 have loop:=r5 x h
 obtain⟨tags,whr⟩:=x
 obtain⟨h1,h2,h3⟩:=h
 simp only at h1 h2 h3 loop ⊢
 simp (disch:=omega) only[go_sem,K.bz,↓reduceIte,loop]
theorem mc(x:World)(h:x.sz):aO 1 N.bz [.t x.e] []=some (.agg [.ref 0 0 x.tags.length,.ref 1 0 x.whr.length],[.arr 1 false 0 ((x.tags.map (T.int .i64)).map .t),.arr 2 false 0 ((x.whr.map Wh.e).map .t)]):=by
 refine ax K.iN rfl ?_
 have loop:=r5 x h
 obtain⟨tags,whr⟩:=x
 obtain⟨h1,h2,h3⟩:=h
 simp only at h1 h2 h3 loop ⊢
 simp (disch:=omega) only[go_sem,K.bz,↓reduceIte,loop]
theorem wm(l:List World)(h1:l.length≤1000000)(h2:∀x∈l,x.sz)(a:D):exS aO K.tS ⟨[a,.bp 0 0,.bp 1 0,.bp 2 0,I 0],[.box [.t (.sl (l.map World.e))],.box [.nil],.box [.ref 3 0 0],.arr 2 false 0 []]⟩=
 some (.exit 0,⟨[.und,.bp 0 0,.bp 1 0,.bp 2 0,I l.length],[.box [.t (.sl (l.map World.e))],.box [.nil],.box [.ref 3 0 l.length],.arr 2 false 0 ((l.map World.e).map .t)]⟩):=by
 have tk:l.take l.length=l:=by simp
 refine dC (fun j=>⟨[.und,.bp 0 0,.bp 1 0,.bp 2 0,I j],[.box [.t (.sl (l.map World.e))],.box [.nil],.box [.ref 3 0 (l.take j).length],.arr 2 false 0 (((l.take j).map World.e).map .t)]⟩) l.length rfl ?_ ?_ (by simp)
 · intro j hj
   have c:=Ct (nth l j) (h2 _ (aa hj))
   have lt:(l.take j).length=j:=by rw[List.length_take];omega
   generalize hx:nth l j=w at*
   obtain⟨tags,whr⟩:=w
   have tk:l.take (j+1)=l.take j++[⟨tags,whr⟩]:=by rw[iv hj,hx]
   generalize l.take j=pre at*
   simp (disch:=omega) only[go_sem,K.nO,↓reduceIte,hx,c,lt,tk,Nat.reduceAdd,Nat.reduceSub]
 · simp (disch:=omega) only[go_sem,K.nO,↓reduceIte,tk]
theorem vm(b:Bel)(h:b.sz):aO 0 N.dM [.t b.e] []=some (.t b.e,[]):=by
 refine ax K.ns rfl ?_
 obtain⟨h1,h2⟩:=h
 have loop:=wm b.worlds h1 h2
 obtain⟨l⟩:=b
 simp only at h1 h2 loop ⊢
 simp (disch:=omega) only[go_sem,K.dM,↓reduceIte,loop]
theorem Ef(b:Bel)(h:b.sz):aO 1 N.dM [.t b.e] []=some (.agg [.ref 0 0 b.worlds.length],[.arr 2 false 0 ((b.worlds.map World.e).map .t)]):=by
 refine ax K.ns rfl ?_
 obtain⟨h1,h2⟩:=h
 have loop:=wm b.worlds h1 h2
 obtain⟨l⟩:=b
 simp only at h1 h2 loop ⊢
 simp (disch:=omega) only[go_sem,K.dM,↓reduceIte,loop]
def H8(m:aT)(first:List Int)(x:World)(k:Nat):Bool:=decide (0≤bM first (nth x.tags k))&&cO m (nth x.whr k)
def oI(m:aT)(ws:List World)(first:List Int)(i:Nat):Bool:=
 decide ((nth ws i).tags.length=first.length∧(nth ws i).whr.length=first.length)&&eH (nth ws i).tags&&(decide (i=0)||qM (nth ws (i-1)).tags (nth ws i).tags)&&(List.range (nth ws i).tags.length).all (H8 m first (nth ws i))
def pI(m:aT)(b:Bel):Bool:=
 decide (1≤b.worlds.length∧b.worlds.length≤24)&&decide (1≤(nth b.worlds 0).tags.length∧(nth b.worlds 0).tags.length≤12)&&(List.range b.worlds.length).all (oI m b.worlds (nth b.worlds 0).tags)
theorem yo{m:aT}(h:m.ok)(ws:List World)(first:List Int)(hf:first.length≤1000000)(hs:∀x∈ws,x.sz)(i:Nat)(hi:i<ws.length)(hl:ws.length≤1000000):
 (oI m ws first i=true→eY true [0,1,4,7,8] 2 (exS aO K.bQ ⟨[.und,.und,.bp 0 0,.bp 1 0,.und,.t (tL first),I i,.und,.und],[.box (ah m),.box [.t (.sl (ws.map World.e))]]⟩)=some ⟨[.und,.und,.bp 0 0,.bp 1 0,.und,.t (tL first),I (i+1),.und,.und],[.box (ah m),.box [.t (.sl (ws.map World.e))]]⟩)∧
 (oI m ws first i=false→∃q,exS aO K.bQ ⟨[.und,.und,.bp 0 0,.bp 1 0,.und,.t (tL first),I i,.und,.und],[.box (ah m),.box [.t (.sl (ws.map World.e))]]⟩=some q∧q.1= .ret∧q.2.vs[4]?=some (B false)):=by
 have np:=h.np
 have sz:=hs _ (aa hi)
 have sz0:0<i→(nth ws (i-1)).sz:=fun h0=>hs _ (aa (by omega))
 unfold oI
 generalize hy:nth ws (i-1)=y at*
 generalize hx:nth ws i=x at*
 obtain⟨tags,whr⟩:=x
 obtain⟨ptags,pwhr⟩:=y
 obtain⟨s1,s2,s3⟩:=sz
 simp only at s1 s2 s3 sz0 ⊢
 have p:=Cs tags s1
 have inner:tags.length=first.length→whr.length=first.length→∀a b c:D,
  ((List.range tags.length).all (H8 m first ⟨tags,whr⟩)=true∧exS aO K.nQ ⟨[a,b,.bp 0 0,.bp 1 0,c,.t (tL first),I i,.bp 2 0,I 0],[.box (ah m),.box [.t (.sl (ws.map World.e))],.box [.t (tL tags),.t (.sl (whr.map Wh.e))]]⟩=
    some (.exit 2,⟨[.und,.und,.bp 0 0,.bp 1 0,.und,.t (tL first),I i,.bp 2 0,I tags.length],[.box (ah m),.box [.t (.sl (ws.map World.e))],.box [.t (tL tags),.t (.sl (whr.map Wh.e))]]⟩))∨
  ((List.range tags.length).all (H8 m first ⟨tags,whr⟩)=false∧∃j,exS aO K.nQ ⟨[a,b,.bp 0 0,.bp 1 0,c,.t (tL first),I i,.bp 2 0,I 0],[.box (ah m),.box [.t (.sl (ws.map World.e))],.box [.t (tL tags),.t (.sl (whr.map Wh.e))]]⟩=
    some (.ret,⟨[.und,.und,.bp 0 0,.bp 1 0,B false,.t (tL first),I i,.bp 2 0,j],[.box (ah m),.box [.t (.sl (ws.map World.e))],.box [.t (tL tags),.t (.sl (whr.map Wh.e))]]⟩)):=by
  intro l1 l2 a b c
  have:=cF (gc:=true) (dead:=[0,1,4]) (c:=K.gv) (vs:=[a,b,.bp 0 0,.bp 1 0,c,.t (tL first),I i,.bp 2 0,I 0]) (H:=[.box (ah m),.box [.t (.sl (ws.map World.e))],.box [.t (tL tags),.t (.sl (whr.map Wh.e))]])
   (fun j=>⟨[.und,.und,.bp 0 0,.bp 1 0,.und,.t (tL first),I i,.bp 2 0,I j],[.box (ah m),.box [.t (.sl (ws.map World.e))],.box [.t (tL tags),.t (.sl (whr.map Wh.e))]]⟩) tags.length (fun j=> !H8 m first ⟨tags,whr⟩ j)
   (fun j=>(.ret,⟨[.und,.und,.bp 0 0,.bp 1 0,B false,.t (tL first),I i,.bp 2 0,I j],[.box (ah m),.box [.t (.sl (ws.map World.e))],.box [.t (tL tags),.t (.sl (whr.map Wh.e))]]⟩))
   (.exit 2,⟨[.und,.und,.bp 0 0,.bp 1 0,.und,.t (tL first),I i,.bp 2 0,I tags.length],[.box (ah m),.box [.t (.sl (ws.map World.e))],.box [.t (tL tags),.t (.sl (whr.map Wh.e))]]⟩) rfl
   (by
    intro j hj hp
    have hp:H8 m first ⟨tags,whr⟩ j=true:=by simpa using hp
    have b:=mP first (nth tags j) hf
    have v:=AI h (nth whr j) (by have:=s3 _ (aa (l:=whr) (j:=j) (by omega));omega)
    simp only[H8,Bool.and_eq_true,decide_eq_true_eq]at hp
    rw[hp.2]at v
    have hp:=hp.1
    simp (disch:=omega) only[go_sem,K.gv,↓reduceIte,b,v])
   (by
    intro j hj hp
    have hp:H8 m first ⟨tags,whr⟩ j=false:=by simpa using hp
    have b:=mP first (nth tags j) hf
    have v:=AI h (nth whr j) (by have:=s3 _ (aa (l:=whr) (j:=j) (by omega));omega)
    refine⟨?_,by simp⟩
    by_cases c1:bM first (nth tags j)<0
    · simp (disch:=omega) only[go_sem,K.gv,↓reduceIte,b,v]
    · have:cO m (nth whr j)=false:=by
       simp only[H8,Bool.and_eq_false_iff,decide_eq_false_iff_not]at hp
       rcases hp with hp | hp
       · exact absurd (by omega) hp
       · exact hp
      rw[this]at v
      simp (disch:=omega) only[go_sem,K.gv,↓reduceIte,b,v])
   (by simp (disch:=omega) only[go_sem,K.gv,↓reduceIte]) (by simp)
  cases hf:(List.range tags.length).find? (fun j=> !H8 m first ⟨tags,whr⟩ j)with
  | none=>rw[hf]at this;exact .inl ⟨by rw[pB,hf];rfl,this⟩
  | some j=>rw[hf]at this;exact .inr ⟨by rw[pB,hf];rfl,⟨_,this⟩⟩
 by_cases l1:tags.length=first.length
 · by_cases l2:whr.length=first.length
   · cases hp:eH tags with
     | false=>
       rw[hp]at p
       refine⟨fun h=>by simp[hp]at h,fun _=>?_⟩
       simp (disch:=omega) only[go_sem,K.bQ,↓reduceIte,hx,p]
       refine⟨_,rfl,?_,?_⟩<;>rfl
     | true=>
       rw[hp]at p
       have inner:=inner l1 l2
       cases i with
       | zero=>
         simp only[D1]at inner
         simp only[l1,l2,and_self,decide_true,Bool.true_and,Bool.true_or]at inner ⊢
         rcases inner .und .und .und with⟨e, -⟩ | ⟨e, -⟩
         · refine⟨fun _=>?_,fun h=>by rw[e]at h;exact absurd h (by simp)⟩
           have inner:=fun a b c=>((inner a b c).resolve_right fun h=>by rw[e]at h;exact absurd h.1 (by simp)).2
           simp (disch:=omega) only[go_sem,K.bQ,↓reduceIte,hx,p,inner]
         · refine⟨fun h=>by rw[e]at h;exact absurd h (by simp),fun _=>?_⟩
           have inner:∀a b c,_:=fun a b c=>((inner a b c).resolve_left fun h=>by rw[e]at h;exact absurd h.1 (by simp)).2
           obtain⟨j,inner⟩:=inner .und .und .und
           simp (disch:=omega) only[go_sem,K.bQ,↓reduceIte,hx,p,inner]
           refine⟨_,rfl,?_,?_⟩<;>rfl
       | succ i=>
         simp only[GS,GU]at inner
         rw[Nat.add_sub_cancel]at hy
         have ls:=Ee ptags tags (sz0 (by omega)).1 s1
         cases hl:qM ptags tags with
         | false=>
           rw[hl]at ls
           refine⟨fun h=>by simp at h,fun _=>?_⟩
           simp (disch:=omega) only[go_sem,K.bQ,↓reduceIte,hx,p,hy,ls]
           refine⟨_,rfl,?_,?_⟩<;>rfl
         | true=>
           rw[hl]at ls
           simp only[l1,l2,and_self,decide_true,Bool.true_and,Bool.or_true]at inner ⊢
           rcases inner .und .und .und with⟨e, -⟩ | ⟨e, -⟩
           · refine⟨fun _=>?_,fun h=>by rw[e]at h;exact absurd h (by simp)⟩
             have inner:=fun a b c=>((inner a b c).resolve_right fun h=>by rw[e]at h;exact absurd h.1 (by simp)).2
             simp (disch:=omega) only[go_sem,K.bQ,↓reduceIte,hx,hy,ls,p,inner]
           · refine⟨fun h=>by rw[e]at h;exact absurd h (by simp),fun _=>?_⟩
             have inner:∀a b c,_:=fun a b c=>((inner a b c).resolve_left fun h=>by rw[e]at h;exact absurd h.1 (by simp)).2
             obtain⟨j,inner⟩:=inner .und .und .und
             simp (disch:=omega) only[go_sem,K.bQ,↓reduceIte,hx,hy,ls,p,inner]
             refine⟨_,rfl,?_,?_⟩<;>rfl
   · refine⟨fun h=>by simp[l2]at h,fun _=>?_⟩
     simp (disch:=omega) only[go_sem,K.bQ,↓reduceIte,hx,p]
     refine⟨_,rfl,?_,?_⟩<;>rfl
 · refine⟨fun h=>by simp[l1]at h,fun _=>?_⟩
   simp (disch:=omega) only[go_sem,K.bQ,↓reduceIte,hx,p]
   refine⟨_,rfl,?_,?_⟩<;>rfl
theorem Eg{m:aT}(h:m.ok)(b:Bel)(hs:b.sz):aO 0 N.cu [.t m.e,.t b.e] []=some (B (pI m b),[]):=by
 refine ax K.pd rfl ?_
 obtain⟨h1,h2⟩:=hs
 have ck:=ud h
 obtain⟨ws⟩:=b
 unfold pI
 simp only at h1 h2 ⊢
 by_cases c1:ws.length<1
 · simp (disch:=omega) only[go_sem,K.cu,↓reduceIte,show ¬(1≤ws.length∧ws.length≤24)by omega,decide_false,Bool.false_and]
 · by_cases c2:24<ws.length
   · simp (disch:=omega) only[go_sem,K.cu,↓reduceIte,show ¬(1≤ws.length∧ws.length≤24)by omega,decide_false,Bool.false_and]
   · have c3:1≤ws.length∧ws.length≤24:=by omega
     have sz:=h2 _ (aa (l:=ws) (j:=0) (by omega))
     have i0:(ws.map World.e)[0]?=some (nth ws 0).e:=cR _ (by omega)
     generalize hx:nth ws 0=x at*
     obtain⟨first,whr⟩:=x
     have hf:=sz.1
     simp only at hf ⊢
     by_cases c4:first.length<1
     · simp (disch:=omega) only[go_sem,K.cu,↓reduceIte,ck,hx,c3,and_self,show ¬(1≤first.length∧first.length≤12)by omega,decide_true,decide_false,Bool.true_and,Bool.false_and]
     · by_cases c5:12<first.length
       · simp (disch:=omega) only[go_sem,K.cu,↓reduceIte,ck,hx,c3,and_self,show ¬(1≤first.length∧first.length≤12)by omega,decide_true,decide_false,Bool.true_and,Bool.false_and]
       · have loop:=fun a b c d e=>uk (gc:=true) (dead:=[0,1,4,7,8]) (c:=K.bQ) (vs:=[a,b,.bp 0 0,.bp 1 0,c,.t (tL first),I 0,d,e]) (H:=[.box (ah m),.box [.t (.sl (ws.map World.e))]])
          (fun j=>⟨[.und,.und,.bp 0 0,.bp 1 0,.und,.t (tL first),I j,.und,.und],[.box (ah m),.box [.t (.sl (ws.map World.e))]]⟩) ws.length (fun j=> !oI m ws first j) (fun _ q=>q.1= .ret∧q.2.vs[4]?=some (B false))
          (.exit 0,⟨[.und,.und,.bp 0 0,.bp 1 0,.und,.t (tL first),I ws.length,.und,.und],[.box (ah m),.box [.t (.sl (ws.map World.e))]]⟩) rfl
          (fun j hj hp=>(yo h ws first hf h2 j hj h1).1 (by simpa using hp))
          (fun j hj hp=>by
           obtain⟨q,q1,q2,q3⟩:=(yo h ws first hf h2 j hj h1).2 (by simpa using hp)
           exact⟨q,q1,by rw[q2];simp,q2,q3⟩)
          (by simp (disch:=omega) only[go_sem,K.bQ,↓reduceIte]) (by simp)
         rw[pB]
         rcases loop (.t m.e) (.t (Bel.e ⟨ws⟩)) (B false) .und .und with⟨e1,e2⟩ | ⟨j,⟨x,vs,H⟩,e1,e2,e3,e4⟩
         · have e2:exS aO K.nS ⟨[.t m.e,.t (Bel.e ⟨ws⟩),.bp 0 0,.bp 1 0,B false,.t (tL first),I 0,.und,.und],[.box (ah m),.box [.t (.sl (ws.map World.e))]]⟩=_:=e2
           simp (disch:=omega) only[go_sem,K.cu,↓reduceIte,ck,hx,c3,and_self,show(1≤first.length∧first.length≤12)by omega,decide_true,decide_false,Bool.true_and,e1,e2,Option.isNone]
         · have e2:exS aO K.nS ⟨[.t m.e,.t (Bel.e ⟨ws⟩),.bp 0 0,.bp 1 0,B false,.t (tL first),I 0,.und,.und],[.box (ah m),.box [.t (.sl (ws.map World.e))]]⟩=_:=e2
           simp only at e3 e4
           subst e3
           simp (disch:=omega) only[go_sem,K.cu,↓reduceIte,ck,hx,c3,and_self,show(1≤first.length∧first.length≤12)by omega,decide_true,decide_false,Bool.true_and,e1,e2,Option.isNone]
           simp (disch:=omega) only[go_sem,iA,e4,List.take_zero]
end Go.Ev
namespace Go.Ev.K
open Go.Ev
def pJ:C:=(.seq (.ite [m v5,f 0 v1,g l0,m v4,a 2 l1 l0,f 1 l0,g l0,u (.ln l0),u (.bin .lss l7 l0)] [] 0 .skip (.exit 2)) (.seq (.blk 3 (.reg [m v3,f 0 v1,g l0,m v4,a 2 l1 l0,f 1 l0,g l0,m v5,a 2 l1 l0,f 0 l0,g l0,u (.mx [.l 10,.l 0]),w 3 (.mv l0)] [])) (.reg [m v5,u (.bin .add l0 (.i 1)),w 5 (.mv l0)] [])))
def wq:C:= .loop true [0,2] K.pJ
def pK:C:=(.seq (.ite [m v4,f 0 v1,g l0,u (.ln l0),u (.bin .lss l3 l0)] [] 0 .skip (.exit 0)) (.seq (.blk 1 (.seq (.reg [w 5 (.mv (.i 0))] []) (.blk 2 K.wq))) (.reg [m v4,u (.bin .add l0 (.i 1)),w 4 (.mv l0)] [])))
def wu:C:= .loop true [0,2,5] K.pK
def jg:Fn:={ nargs:=1,vars:=[0,1,2,3,4,5],body:=(.seq (.reg [w 1 (.bx v0 1),w 2 (.mv (.i 0))] []) (.seq (.reg [w 3 (.mv (.i 0))] []) (.seq (.seq (.reg [w 4 (.mv (.i 0))] []) (.blk 0 K.wu)) (.seq (.reg [m v3,w 2 (.mv l0)] []) .ret)))),res:=[(2,none)]}
end Go.Ev.K
namespace Go.Ev
class gL [Lib]:Prop where
 sQ:Lib.fs N.jg=some K.jg
namespace K
variable [Lib] [gL]
theorem sQ:Lib.fs N.jg=some K.jg:=gL.sQ
end K
end Go.Ev
namespace Go.Ev.K
open Go.Ev
def eI:C:=(.its [u (.bin .lss v8 v7)] [] 0 .skip (.exit 0) (.seq (.blk 1 (.seq (.reg [m v8,a 1 v6 v8,g l0,w 4 (.mv l2),w 5 (.mv l1)] []) (.ite [m v5,m v1,u (.bin .lss l1 l0),m l0,y 0 false (.mv v5),y 1 false (.mv v2),y 2 false (.bin .gtr l1 l0),u (.pk l3 (.b true) l0),m l0,y 0 false (.mv v4),y 1 false (.bin .gtr l0 (.i 0)),y 2 false (.mv l0),y 0 true (.mv v5),y 1 true (.mv v0),y 2 true (.mv v4),y 3 true (.bin .sub l0 (.i 1)),y 4 true (.ia l2 l0 1),y 5 true (.ld l0 1 false),y 6 true (.bin .leq l5 l0),y 10 false (.pk l7 l0 (.b false)),u (.pk l11 (.b true) l0)] [] 0 (.seq (.reg [w 3 (.mv (.b false))] []) .ret) .skip))) (.reg [u (.bin .add v8 (.i 1)),w 8 (.mv l0)] [])))
def qN:C:= .loop true [3,4,5] K.eI
def ef:Fn:={ nargs:=3,vars:=[0,1,2,6,7,8,9,10,11],body:=(.seq (.reg [w 3 (.mv (.b false))] []) (.seq (.seq (.reg [w 6 (.mv v0),w 7 (.ln l0),w 8 (.mv (.i 0))] []) (.blk 0 K.qN)) (.seq (.reg [w 3 (.mv (.b true))] []) .ret))),res:=[(3,none)]}
def kX:C:=(.its [u (.bin .lss v11 v10)] [] 0 .skip (.exit 2) (.seq (.blk 3 (.seq (.reg [a 2 v9 v11,h 2 l0,w 5 (.al [.t (.int .i64 (0)),.nil] []),u (.st l0 l1 2 [])] []) (.ite [m v1,u (.mf N.b8 [.v 5]),u (.ca N.az 0 [] [.l 1,.l 0])] [] 0 (.seq (.reg [w 3 (.mv (.b false))] []) .ret) .skip))) (.reg [u (.bin .add v11 (.i 1)),w 11 (.mv l0)] [])))
def um:C:= .loop true [0,2,3,4,5] K.kX
def kY:C:=(.its [u (.bin .lss v8 v7)] [] 0 .skip (.exit 0) (.seq (.blk 1 (.seq (.reg [a 2 v6 v8,h 2 l0,w 4 (.al [.nil,.nil] []),u (.st l0 l1 2 [])] []) (.seq (.reg [f 1 v4,w 9 (.ld l0 1 false),w 10 (.ln l0),w 11 (.mv (.i 0))] []) (.blk 2 K.um)))) (.reg [u (.bin .add v8 (.i 1)),w 8 (.mv l0)] [])))
def uo:C:= .loop true [0,2,3,4,5,9,10,11] K.kY
def fg:Fn:={ nargs:=2,vars:=[0,1,2,4,6,8,10,11,12,17,18,19],body:=(.seq (.reg [w 2 (.bx v0 1),w 3 (.mv (.b false))] []) (.seq (.seq (.reg [f 0 v2,w 6 (.ld l0 1 false),w 7 (.ln l0),w 8 (.mv (.i 0))] []) (.blk 0 K.uo)) (.seq (.reg [w 3 (.mv (.b true))] []) .ret))),res:=[(3,none)]}
def b8:Fn:={ nargs:=2,vars:=[0,1,3],body:=(.seq (.reg [w 2 (.mv (.b false))] []) (.seq (.reg [m v0,f 1 v1,g l0,u (.ln l0),u (.bin .sub l0 (.i 1)),u (.ca N.eu 0 [] [.l 4,.i 0,.l 0]),m l0,y 0 true (.fa v1 1),y 1 true (.ld l0 1 false),y 2 true (.mv v0),y 3 true (.ia l1 l0 1),y 4 true (.ld l0 1 false),y 5 true (.bin .neq l0 (.i 1099511627776)),u (.pk l6 l0 (.b false)),w 2 (.mv l0)] []) .ret)),res:=[(2,none)]}
end Go.Ev.K
namespace Go.Ev
class gF [Lib]:Prop where
 oc:Lib.fs N.ef=some K.ef
 qO:Lib.fs N.fg=some K.fg
 od:Lib.fs N.b8=some K.b8
namespace K
variable [Lib] [gF]
theorem oc:Lib.fs N.ef=some K.ef:=gF.oc
theorem qO:Lib.fs N.fg=some K.fg:=gF.qO
theorem od:Lib.fs N.b8=some K.b8:=gF.od
end K
end Go.Ev
namespace Go.Ev
open Go
variable [Lib] [cn] [bR] [gL] [gF]
def JF(l:List Int)(lo hi:Int)(j:Nat):Bool:= !decide (lo≤nth l j∧nth l j≤hi∧(0<j→nth l (j-1)<nth l j))
def OB(l:List Int)(lo hi:Int):Bool:= !((List.range l.length).any (JF l lo hi))
theorem Cu(l:List Int)(lo hi:Int)(hl:l.length≤4294967296):aO 0 N.ef [.t (tL l),I lo,I hi] []=some (B (OB l lo hi),[]):=by
 refine ax K.oc rfl ?_
 have loop:∀a b c:D,exS aO K.qN ⟨[.t (tL l),I lo,I hi,a,b,c,.t (tL l),I l.length,I 0],[]⟩=
  some (if(List.range l.length).any (JF l lo hi)=true
   then(.ret,⟨[.t (tL l),I lo,I hi,B false,I (qa l.length (JF l lo hi)),I (nth l (qa l.length (JF l lo hi))),.t (tL l),I l.length,I (qa l.length (JF l lo hi))],[]⟩)
   else(.exit 0,⟨[.t (tL l),I lo,I hi,.und,.und,.und,.t (tL l),I l.length,I l.length],[]⟩)):=by
  intro a b c
  refine yj (fun j=>⟨[.t (tL l),I lo,I hi,.und,.und,.und,.t (tL l),I l.length,I j],[]⟩) l.length (JF l lo hi) (fun j=>(.ret,⟨[.t (tL l),I lo,I hi,B false,I j,I (nth l j),.t (tL l),I l.length,I j],[]⟩)) _ rfl ?_ ?_ ?_ (by simp)
  · intro j hj hp
    simp only[JF,Bool.not_eq_false',decide_eq_true_eq]at hp
    obtain⟨h1,h2,h3⟩:=hp
    cases j with
    | zero=>simp (disch:=omega) only[go_sem,K.eI,↓reduceIte]
    | succ j=>
      have h3:=h3 (by omega)
      rw[Nat.add_sub_cancel]at h3
      simp (disch:=omega) only[go_sem,K.eI,↓reduceIte]
  · intro j hj hp
    simp only[JF,Bool.not_eq_true',decide_eq_false_iff_not]at hp
    refine⟨?_,by simp⟩
    by_cases h1:lo≤nth l j
    · by_cases h2:nth l j≤hi
      · cases j with
        | zero=>exact absurd ⟨h1,h2,fun h=>absurd h (by omega)⟩ hp
        | succ j=>
          have h3:¬nth l j<nth l (j+1):=fun h=>hp ⟨h1,h2,fun _=>by simpa using h⟩
          simp (disch:=omega) only[go_sem,K.eI,↓reduceIte]
      · simp (disch:=omega) only[go_sem,K.eI,↓reduceIte]
    · simp (disch:=omega) only[go_sem,K.eI,↓reduceIte]
  · simp (disch:=omega) only[go_sem,K.eI,↓reduceIte]
 unfold OB
 simp (disch:=omega) only[go_sem,K.ef,↓reduceIte,loop]
 cases hf:(List.range l.length).any (JF l lo hi)with
 | true=>simp (disch:=omega) only[go_sem,↓reduceIte]
 | false=>simp (disch:=omega) only[go_sem,↓reduceIte,Bool.false_eq_true]
theorem RA(l:List Int)(n:Int):OB l 0 (n-1)=rr l n:=by
 unfold OB rr
 rw[Jj]
 refine congrArg (!·) (congrArg _ (funext fun j=>?_))
 unfold JF
 refine congrArg (!·) (decide_eq_decide.2 ⟨fun h=>⟨h.1,by omega,h.2.2⟩,fun h=>⟨h.1,by omega,h.2.2⟩⟩)
structure ZW where
 st:Int
 fi:Int
 se:Int
 ti:Int
abbrev ZW.e(s:ZW):T:= .agg [tI s.st,tI s.fi,tI s.se,tI s.ti]
structure MB where
 area:List Int
 hold:Int
 mis:Int
abbrev MB.e(x:MB):T:= .agg [tL x.area,tI x.hold,tI x.mis]
structure Keys where
 roads:List Int
 keys:List Int
 out:Bool
abbrev Keys.e(k:Keys):T:= .agg [tL k.roads,tL k.keys,.bool k.out]
end Go.Ev
namespace Go.Ev
open Go
variable [Lib] [cn] [bR] [gL] [gF] [gg] [gh] [i5] [gK]
theorem G6(x:Int):aO 0 N.bH [I x] []=some (B (!decide (plT x)),[]):=by
 refine ax K.kN rfl ?_
 have i:=GW x 0 2147483648
 unfold plT inT
 by_cases c:x=1099511627776
 · subst c
   simp (disch:=omega) only[go_sem,K.bH,↓reduceIte,Nat.reduceAdd,Nat.reduceSub]
 · by_cases c2:0≤x∧x≤2147483648
   · simp only[c2,and_self,decide_true]at i
     simp (disch:=omega) only[go_sem,K.bH,↓reduceIte,i,c,c2,false_or,and_self,decide_true,Nat.reduceAdd,Nat.reduceSub]
   · simp only[c2,decide_false]at i
     simp (disch:=omega) only[go_sem,K.bH,↓reduceIte,i,c,c2,false_or,decide_false,Nat.reduceAdd,Nat.reduceSub]
theorem Cv(m:aT)(hm:m.places.length≤1000000)(w:Wh)(hl:w.frm.length≤1000000):aO 0 N.cG [.t m.e,.t w.e] []=some (B (mI w m.places.length),[]):=by
 refine ax K.mO rfl ?_
 have i:=GW w.time 0 2147483648
 have cf:aO 0 N.az [.t (tL w.frm),.fn N.bH []] []=some (B (w.frm.any fun x=> !decide (plT x)),[]):=kd w.frm (by omega) N.bH [] (fun x=> !decide (plT x)) (fun x _=>G6 x)
 have e:mI w m.places.length=(decide ((w.frm.length:Int)=m.places.length∧inT w.time)&& !(w.frm.any fun x=> !decide (plT x))):=by
  unfold mI
  rw[Jj,yk w.frm (fun x=> !decide (plT x))]
 rw[e]
 unfold inT
 generalize (w.frm.any fun x=> !decide (plT x))=r at*
 obtain⟨places,roads⟩:=m
 obtain⟨time,frm⟩:=w
 simp only at*
 clear e
 by_cases c1:(frm.length:Int)=places.length
 · by_cases c2:0≤time∧time≤2147483648
   · simp only[c2,and_self,decide_true]at i
     cases r<;>simp (disch:=omega) only[go_sem,K.cG,↓reduceIte,i,cf,c1,c2,and_self,decide_true,Bool.true_and,Nat.reduceAdd,Nat.reduceSub]
   · simp only[c2,decide_false]at i
     simp (disch:=omega) only[go_sem,K.cG,↓reduceIte,i,cf,c1,c2,and_false,decide_false,Bool.false_and,Nat.reduceAdd,Nat.reduceSub]
 · simp (disch:=omega) only[go_sem,K.cG,↓reduceIte,c1,false_and,decide_false,Bool.false_and,Nat.reduceAdd,Nat.reduceSub]
theorem JG{m:aT}(h:m.ok)(w:Wh)(hl:w.frm.length≤1000000):aO 0 N.eh [.t m.e,.t w.e] []=some (B (cO m w),[]):=by
 refine ax K.n9 rfl ?_
 have np:=h.np
 have v:=lq h
 have s:=Cv m (by omega) w hl
 unfold cO
 cases hp:mI w m.places.length with
 | false=>
   rw[hp]at s
   obtain⟨places,roads⟩:=m
   obtain⟨time,frm⟩:=w
   simp only at*
   simp (disch:=omega) only[go_sem,K.eh,↓reduceIte,v,s,Bool.false_and,Nat.reduceAdd,Nat.reduceSub]
 | true=>
   rw[hp]at s
   obtain⟨p1,p2,p3⟩:=pD hp
   have hb:bnd w.frm:=fun x hx=>iH (p3 x hx)
   have lo:=(zP h w.time (by unfold inT at p2;omega) (by unfold inT at p2;omega) w.frm (by omega) hb).1
   have ll:=kI h w.time p2 none (by simp) (l:=w.frm) (by omega) hb
   have eq:=xh (cK m w.time none w.frm) w.frm (by omega) (by omega)
   generalize cK m w.time none w.frm=c at*
   obtain⟨places,roads⟩:=m
   obtain⟨time,frm⟩:=w
   simp only at*
   clear hb p3
   simp (disch:=omega) only[go_sem,K.eh,↓reduceIte,v,s,lo,eq,Bool.true_and,Nat.reduceAdd,Nat.reduceSub]
def wz(m:aT)(w:Wh)(t:Int):Wh×Int:=if mI w m.places.length=false then(w,6)else if t<w.time∨2147483648<t then(w,8)else(⟨t,cK m t none w.frm⟩,0)
theorem JH{m:aT}(h:m.ok)(w:Wh)(t:Int)(hl:w.frm.length≤1000000):aO 0 N.dt [.t m.e,.t w.e,I t] []=some (.tup [.t (wz m w t).1.e,I (wz m w t).2],[]):=by
 refine ax K.oa rfl ?_
 have np:=h.np
 have v:=lq h
 have s:=Cv m (by omega) w hl
 unfold wz
 cases hp:mI w m.places.length with
 | false=>
   rw[hp]at s
   rw[if_pos rfl]
   obtain⟨places,roads⟩:=m
   obtain⟨time,frm⟩:=w
   simp only at*
   simp (disch:=omega) only[go_sem,K.dt,↓reduceIte,v,s,Nat.reduceAdd,Nat.reduceSub]
 | true=>
   rw[hp]at s
   obtain⟨p1,p2,p3⟩:=pD hp
   have hb:bnd w.frm:=fun x hx=>iH (p3 x hx)
   unfold inT at p2
   by_cases c1:t<w.time
   · rw[if_neg (by simp),if_pos (.inl c1)]
     obtain⟨places,roads⟩:=m
     obtain⟨time,frm⟩:=w
     simp only at*
     simp (disch:=omega) only[go_sem,K.dt,↓reduceIte,v,s,c1,Nat.reduceAdd,Nat.reduceSub]
   · by_cases c2:2147483648<t
     · rw[if_neg (by simp),if_pos (.inr c2)]
       obtain⟨places,roads⟩:=m
       obtain⟨time,frm⟩:=w
       simp only at*
       simp (disch:=omega) only[go_sem,K.dt,↓reduceIte,v,s,c1,c2,Nat.reduceAdd,Nat.reduceSub]
     · have lo:=(zP h t (by omega) (by omega) w.frm (by omega) hb).1
       rw[if_neg (by simp),if_neg (by omega)]
       generalize cK m t none w.frm=c at*
       obtain⟨places,roads⟩:=m
       obtain⟨time,frm⟩:=w
       simp only at*
       clear hb p3
       simp (disch:=omega) only[go_sem,K.dt,↓reduceIte,v,s,c1,c2,lo,Nat.reduceAdd,Nat.reduceSub]
end Go.Ev
namespace Go.Ev.N
def La:Nat:=215
def Lb:Nat:=216
def Lc:Nat:=217
def RB:Nat:=218
def RC:Nat:=219
def RD:Nat:=220
def Uh:Nat:=221
def Ui:Nat:=222
def Uj:Nat:=223
def Xn:Nat:=224
def RE:Nat:=225
def RF:Nat:=226
def RG:Nat:=227
def Xo:Nat:=228
def RH:Nat:=229
def RI:Nat:=230
def Uk:Nat:=231
def OC:Nat:=232
def Ul:Nat:=233
def OD:Nat:=234
def OE:Nat:=235
def OF:Nat:=236
def Um:Nat:=237
def OH:Nat:=238
def Xp:Nat:=239
def Xq:Nat:=240
def Eh:Nat:=241
def Un:Nat:=242
def RJ:Nat:=243
def Ld:Nat:=244
end Go.Ev.N
namespace Go.Ev.N
def FR:Nat:=245
def Ei:Nat:=246
def Ej:Nat:=247
def RK:Nat:=248
def MC:Nat:=249
def RL:Nat:=250
def FT:Nat:=251
def Le:Nat:=252
def JI:Nat:=253
def RM:Nat:=254
def OI:Nat:=255
def Uo:Nat:=256
def eJ:Nat:=257
def G7:Nat:=258
def pL:Nat:=259
def bS:Nat:=260
def bg:Nat:=261
def eZ:Nat:=262
def aQ:Nat:=263
def ae:Nat:=264
def cZ:Nat:=265
def qi:Nat:=266
def aN:Nat:=267
def bZ:Nat:=268
def av:Nat:=269
def cmp_isNaN_int:Nat:=270
end Go.Ev.N
namespace Go.Ev.N
def G8:Nat:=271
def JJ:Nat:=272
def JK:Nat:=273
def H9:Nat:=274
def Lf:Nat:=275
def JL:Nat:=276
def RN:Nat:=277
def RO:Nat:=278
def Up:Nat:=279
def Uq:Nat:=280
def Lg:Nat:=281
def Xr:Nat:=282
def OJ:Nat:=283
def RP:Nat:=284
def RQ:Nat:=285
def Ur:Nat:=286
def uJ:Nat:=287
def Us:Nat:=288
def jC:Nat:=289
def fW:Nat:=290
def RR:Nat:=291
def RS:Nat:=292
def Lh:Nat:=293
def RT:Nat:=294
def RU:Nat:=295
def OK:Nat:=296
def aH:Nat:=297
def aI:Nat:=298
def a8:Nat:=299
def bu:Nat:=300
def aA:Nat:=301
def aq:Nat:=302
def aP:Nat:=303
def ay:Nat:=304
def aE:Nat:=305
def a7:Nat:=306
def aJ:Nat:=307
def cX:Nat:=308
end Go.Ev.N
namespace Go.Ev.N
def OL:Nat:=309
def JM:Nat:=310
def Li:Nat:=311
def Lj:Nat:=312
def b5:Nat:=313
def fX:Nat:=314
def qP:Nat:=315
def fq:Nat:=316
def RV:Nat:=317
def ft:Nat:=318
def eL:Nat:=319
def fv:Nat:=320
def lr:Nat:=321
def lu:Nat:=322
def eM:Nat:=323
def cH:Nat:=324
def ji:Nat:=325
def ZX:Nat:=326
def Lk:Nat:=327
def OM:Nat:=328
def cI:Nat:=329
def aF:Nat:=330
def aK:Nat:=331
def c7:Nat:=332
def b6:Nat:=333
end Go.Ev.N
namespace Go.Ev.K
open Go.Ev
def b5:Fn:={ nargs:=1,vars:=[0,2,3,4,5,6,7,8,9,10,11,12,13,14,15],body:=(.seq (.reg [w 1 (.mv (.b false))] []) (.seq (.ite [m v0,u (.ca N.gT 0 [] [.l 0]),u (.un .not l0)] [] 0 (.seq (.reg [u (.ca N.fX 0 [] []),w 1 (.mv l0)] []) .ret) .skip) (.seq (.reg [m v0,u (.ca N.jd 0 [] [.l 0]),w 2 (.mv l0)] []) (.seq (.reg [m v2,u (.ca N.cB 0 [] [.l 0]),w 3 (.al [.nil,.nil] []),u (.st l0 l1 2 [])] []) (.seq (.reg [m v2,h 2 v3,u (.ca N.bX 0 [] [.l 1,.l 0]),w 4 (.al [.nil] []),u (.st l0 l1 1 [])] []) (.seq (.reg [h 1 v4,u (.ca N.jg 0 [] [.l 0]),m v2,u (.ca N.aB 0 [] [.l 0,.i 90]),u (.bin .add l2 l0),w 5 (.mv l0)] []) (.seq (.reg [m v2,f 0 v3,g l0,u (.ln l0),u (.ca N.bU 0 [] [.l 3,.l 0]),w 6 (.mv l0)] []) (.seq (.reg [h 2 v3,m v6,u (.ca N.ft 0 [] [.l 1,.l 0]),w 7 (.mv l0)] []) (.seq (.reg [h 2 v3,h 1 v4,m v7,m v5,u (.ca N.fq 0 [] [.l 3,.l 2,.l 1,.l 0]),m l0,u (.ex l0 0),u (.ex l1 1),w 8 (.al [.nil] []),u (.st l0 l2 1 []),w 9 (.mv l2)] []) (.seq (.reg [h 2 v3,m v7,u (.ca N.eL 0 [] [.l 1,.l 0]),m l0,u (.ex l0 0),u (.ex l1 1),w 10 (.al [.nil,.nil] []),u (.st l0 l2 2 []),w 11 (.mv l2)] []) (.seq (.ite [m v9,u (.bin .neq l0 (.i 0)),m l0,y 0 false (.mv v11),y 1 false (.bin .neq l0 (.i 0)),u (.pk l2 (.b true) l0),m l0,y 0 false (.ld v10 2 true),y 1 false (.ld v8 1 true),y 2 false (.ca N.cu 0 [] [.l 1,.l 0]),y 3 false (.un .not l0),u (.pk l4 (.b true) l0)] [] 0 (.seq (.reg [w 1 (.mv (.b false))] []) .ret) .skip) (.seq (.reg [h 1 v8,m v6,u (.ca N.fg 0 [] [.l 1,.l 0]),w 12 (.mv l0)] []) (.seq (.ite [m v12,h 1 v4,m v6,m v5,u (.ca N.fv 0 [] [.l 2,.l 1,.l 0]),u (.ln l0),u (.bin .eql l0 (.i 0)),u (.eqk (.bool) true l6 l0)] [] 0 (.seq (.reg [w 1 (.mv (.b false))] []) .ret) .skip) (.seq (.reg [w 13 (.al [.nil] []),h 2 v10,h 1 v8,f 0 v4,g l0,a 2 l0 (.i 0),f 0 l0,g l0,a 1 l0 (.i 0),g l0,m v2,f 0 v3,g l0,u (.ln l0),u (.ca N.bU 0 [] [.l 3,.l 0]),m v5,m v2,u (.ca N.aB 0 [] [.l 0,.i 50]),u (.bin .add l2 l0),m v5,u (.bin .add l0 (.i 60)),u (.ca N.fO 0 [] [.l 19,.l 18,.l 11,.l 6,.l 2,.l 0]),m l0,u (.ex l0 0),u (.ex l1 1),u (.st (.l 24) l1 1 []),w 14 (.mv l1)] [(0,15),(0,18),(0,22),(1,15),(1,18),(2,15),(2,18),(4,15),(4,18),(5,15),(5,18),(7,15),(7,18),(8,15),(8,18),(9,15),(9,18)]) (.seq (.reg [u (.ca N.fX 0 [] []),m l0,y 0 true (.mv v12),y 1 true (.un .not l0),y 2 true (.mv l0),y 0 false (.mv v14),y 1 false (.bin .neq l0 (.i 0)),y 5 true (.pk l2 (.b true) l0),y 6 true (.mv l0),y 0 false (.ld v13 1 true),y 1 false (.mv v6),y 2 false (.ca N.fg 0 [] [.l 1,.l 0]),y 10 true (.pk l3 (.b true) l0),u (.pk l11 l0 (.b false)),w 1 (.mv l0)] []) .ret))))))))))))))),res:=[(1,none)]}
def fX:Fn:={ nargs:=0,vars:=[0,1,2,4,5,6,7,8],body:=(.seq (.reg [w 0 (.mv (.b false))] []) (.seq (.reg [u (.ca N.lr 0 [] []),w 1 (.al [.nil,.nil] []),u (.st l0 l1 2 [])] []) (.seq (.reg [h 2 v1,u (.bs [.i 4] 1),u (.bs [.i 0] 1),u (.ca N.dg 0 [] [.l 2,.l 1,.l 0,.i 0]),m l0,u (.ex l0 0),u (.ex l1 1),w 2 (.al [.nil] []),u (.st l0 l2 1 []),m l2] []) (.seq (.reg [h 2 v1,h 1 v2,u (.bs [.i 1] 1),u (.ca N.fq 0 [] [.l 2,.l 1,.l 0,.i 15]),m l0,u (.ex l0 0),u (.ex l1 1),w 3 (.al [.nil] []),u (.st l0 l2 1 []),w 4 (.mv l2)] []) (.seq (.reg [h 2 v1,u (.ca N.qP 0 [] [.l 0,.i 2,.i 12]),m l0,u (.ex l0 0),u (.ex l1 1),w 5 (.mv l1),w 6 (.mv l1)] []) (.seq (.reg [h 2 v1,u (.bs [.i 2] 1),u (.ca N.ft 0 [] [.l 1,.l 0]),w 7 (.mv l0)] []) (.seq (.reg [m v4,u (.bin .eql l0 (.i 0)),m l0,y 0 true (.ld v3 1 true),y 1 true (.bs [.i 2] 1),y 2 true (.ca N.fg 0 [] [.l 1,.l 0]),u (.pk l3 l0 (.b false)),m l0,y 0 true (.ld v3 1 true),y 1 true (.bs [.i 1] 1),y 2 true (.ca N.fg 0 [] [.l 1,.l 0]),y 3 true (.un .not l0),u (.pk l4 l0 (.b false)),m l0,y 0 true (.mv v6),y 1 true (.bin .eql l0 (.i 0)),u (.pk l2 l0 (.b false)),m l0,y 0 true (.mv v5),y 1 true (.ln l0),y 2 true (.bin .eql l0 (.i 2)),u (.pk l3 l0 (.b false)),m l0,y 0 true (.mv v5),y 1 true (.ia l0 (.i 0) 1),y 2 true (.ld l0 1 false),y 3 true (.bin .eql l0 (.i 1)),u (.pk l4 l0 (.b false)),m l0,y 0 true (.mv v7),y 1 true (.ln l0),y 2 true (.bin .eql l0 (.i 1)),u (.pk l3 l0 (.b false)),m l0,y 0 true (.mv v7),y 1 true (.ia l0 (.i 0) 1),y 2 true (.ld l0 1 false),y 3 true (.bin .eql l0 (.i 1)),u (.pk l4 l0 (.b false)),w 0 (.mv l0)] []) .ret))))))),res:=[(0,none)]}
def Ek:C:=(.its [u (.bin .lss v13 v12)] [] 0 .skip (.exit 3) (.seq (.blk 4 (.seq (.reg [a 10 v11 v13,h 10 l0,w 9 (.al [.t (.int .i64 (0)),.t (.int .i64 (0)),.t (.int .i64 (0)),.t (.int .i64 (0)),.t (.bool false),.t (.bool false),.t (.int .i64 (0)),.t (.int .i64 (0)),.t (.int .i64 (0)),.t (.int .i64 (0))] []),u (.st l0 l1 10 [])] []) (.seq (.reg [g v7,f 0 v9,g l0,a 1 l2 l0,g l0,g v7,f 1 v9,g l0,a 1 l2 l0,g l0,u (.mn [.l 5,.l 0]),f 2 v9,g l0,u (.bin .add l2 l0),w 10 (.mv l0)] []) (.ite [f 5 v9,g l0,u (.un .not l0),m l0,y 0 true (.mv v10),y 1 true (.ld v7 1 false),y 2 true (.fa v9 0),y 3 true (.ld l0 1 false),y 4 true (.ia l2 l0 1),y 5 true (.ld l0 1 false),y 6 true (.ld v7 1 false),y 7 true (.fa v9 1),y 8 true (.ld l0 1 false),y 9 true (.ia l2 l0 1),y 10 true (.ld l0 1 false),y 11 true (.mx [.l 5,.l 0]),y 12 true (.bin .lss l11 l0),u (.pk (.l 13) l0 (.b false))] [] 0 (.seq (.reg [g v7,f 0 v9,g l0,g v7,f 1 v9,g l0,g v7,f 0 v9,g l0,a 1 l2 l0,g l0,m v10,u (.mn [.l 1,.l 0]),g v7,f 1 v9,g l0,a 1 l2 l0,g l0,m v10,u (.mn [.l 1,.l 0]),a 1 (.l 19) (.l 17),u (.st l0 l8 1 []),a 1 (.l 18) (.l 16),u (.st l0 l3 1 [])] [(3,22),(5,22)]) (.reg [w 8 (.mv (.b true))] [])) .skip)))) (.reg [u (.bin .add v13 (.i 1)),w 13 (.mv l0)] [])))
def G9:C:= .loop true [0,1,2,5,6,9,10] K.Ek
def El:C:=(.seq (.ite [m v8] [] 0 .skip (.exit 1)) (.blk 2 (.seq (.reg [w 8 (.mv (.b false))] []) (.seq (.reg [f 1 v3,w 11 (.ld l0 1 false),w 12 (.ln l0),w 13 (.mv (.i 0))] []) (.blk 3 K.G9)))))
def Ha:C:= .loop true [0,1,2,5,6,9,10,11,12,13] K.El
def qP:Fn:={ nargs:=3,vars:=[0,1,2,3,5,6,7,8,9,11,12,38,39,40],body:=(.seq (.reg [w 3 (.bx v0 2),w 4 (.bx v2 1),w 5 (.mv (.c (.nil))),w 6 (.mv (.i 0))] []) (.seq (.blk 0 (.ite [h 2 v3,u (.ca N.dR 0 [] [.l 0]),u (.un .not l0),m l0] [] 0 (.seq (.reg [w 5 (.mv (.c (.nil))),w 6 (.mv (.i 6))] []) .ret) (.ite [m v1,f 0 v3,g l0,u (.ln l0),u (.bin .sub l0 (.i 1)),u (.ca N.eu 0 [] [.l 4,.i 0,.l 0]),u (.un .not l0),m l0] [] 0 (.seq (.reg [w 5 (.mv (.c (.nil))),w 6 (.mv (.i 3))] []) .ret) (.ite [g v4,u (.bin .lss l0 (.i 0)),m l0] [] 0 (.seq (.reg [w 5 (.mv (.c (.nil))),w 6 (.mv (.i 1))] []) .ret) .skip)))) (.seq (.reg [u (.bs [.i 1099511627776] 1),f 0 v3,g l0,u (.ln l0),u (.ca N.bc 1 [] [.l 3,.l 0]),w 7 (.al [.nil] []),u (.st l0 l1 1 [])] []) (.seq (.reg [g v7,m v1,a 1 l1 l0,u (.st l0 (.i 0) 1 [])] []) (.seq (.seq (.reg [w 8 (.mv (.b true))] []) (.blk 1 K.Ha)) (.seq (.reg [g v7,u (.ln l0),u (.mf N.lu [.v 7,.v 4]),u (.ca N.b9 0 [] [.l 1,.l 0]),w 5 (.mv l0),w 6 (.mv (.i 0))] []) .ret)))))),res:=[(5,none),(6,none)]}
def pM:C:=(.its [u (.bin .lss (.v 24) v23)] [] 0 .skip (.exit 2) (.seq (.blk 3 (.seq (.reg [m (.v 24),a 2 v22 (.v 24),h 2 l0,w 16 (.al [.t (.int .i64 (0)),.nil] []),w 15 (.mv l3),u (.st l1 l2 2 [])] []) (.seq (.reg [h 2 v9,h 2 v16,g v6,u (.ca N.ji 0 [] [.l 2,.l 1,.l 0]),m l0,u (.ex l0 0),u (.ex l1 1),w 17 (.al [.t (.int .i64 (0)),.nil] []),u (.st l0 l2 2 []),w 18 (.mv l2)] []) (.seq (.ite [m v18,u (.bin .neq l0 (.i 0))] [] 0 (.seq (.reg [h 1 v5,m v18,u (.st v7 l1 1 []),w 8 (.mv l1)] []) .ret) .skip) (.reg [f 1 v14,g l0,m v15,h 2 v17,a 2 l2 l1,u (.st l0 l1 2 [])] []))))) (.reg [u (.bin .add (.v 24) (.i 1)),w 24 (.mv l0)] [])))
def wA:C:= .loop true [0,1,2,3,4,8,10,11,13,15,16,17,18] K.pM
def me:C:=(.its [u (.bin .lss v21 v20)] [] 0 .skip (.exit 0) (.seq (.blk 1 (.seq (.reg [a 2 v19 v21,h 2 l0,w 13 (.al [.nil,.nil] []),u (.st l0 l1 2 [])] []) (.seq (.reg [h 2 v13,u (.ca N.cX 1 [] [.l 0]),w 14 (.al [.nil,.nil] []),u (.st l0 l1 2 [])] []) (.seq (.seq (.reg [f 1 v13,w 22 (.ld l0 1 false),w 23 (.ln l0),w 24 (.mv (.i 0))] []) (.blk 2 K.wA)) (.reg [m v12,h 2 v14,u (.bs [.l 0] 2),u (.app l2 l0 true 2),w 12 (.mv l0)] []))))) (.reg [u (.bin .add v21 (.i 1)),w 21 (.mv l0)] [])))
def wB:C:= .loop true [0,1,2,3,4,8,10,11,13,14,15,16,17,18,22,23,24] K.me
def fq:Fn:={ nargs:=4,vars:=[0,1,2,3,4,5,7,8,9,10,11,12,13,15,16,17,18,19,20,47,48,49,56,57,58],body:=(.seq (.reg [w 4 (.bx v0 2),w 5 (.bx v1 1),w 6 (.bx v3 1),w 7 (.al [.nil] []),w 8 (.mv (.i 0))] []) (.seq (.ite [h 2 v4,h 1 v5,u (.ca N.eJ 0 [] [.l 1,.l 0]),u (.un .not l0)] [] 0 (.seq (.reg [h 1 v5,u (.st v7 l0 1 []),w 8 (.mv (.i 6))] []) .ret) .skip) (.seq (.reg [h 2 v4,m v2,u (.ca N.eL 0 [] [.l 1,.l 0]),m l0,u (.ex l0 0),u (.ex l1 1),w 9 (.al [.nil,.nil] []),u (.st l0 l2 2 []),w 10 (.mv l2)] []) (.seq (.ite [m v10,u (.bin .neq l0 (.i 0))] [] 0 (.seq (.reg [h 1 v5,m v10,u (.st v7 l1 1 []),w 8 (.mv l1)] []) .ret) .skip) (.seq (.reg [u (.mf N.eM [.v 6]),w 11 (.mv l0)] []) (.seq (.ite [g v6,u (.bin .gtr l0 (.i 2147483648)),m l0,y 0 false (.fa v5 0),y 1 false (.ld l0 1 false),y 2 false (.mv v11),y 3 false (.ca N.ak 0 [] [.l 1,.l 0]),u (.pk l4 (.b true) l0)] [] 0 (.seq (.reg [h 1 v5,u (.st v7 l0 1 []),w 8 (.mv (.i 8))] []) .ret) .skip) (.seq (.reg [w 12 (.nw 2)] []) (.seq (.seq (.reg [f 0 v5,w 19 (.ld l0 1 false),w 20 (.ln l0),w 21 (.mv (.i 0))] []) (.blk 0 K.wB)) (.seq (.reg [m v12,u (.ca N.fW 0 [] [.l 0]),u (.bd [.nil] [(0,1,.l 0)]),u (.st v7 l0 1 []),w 8 (.mv (.i 0))] []) .ret))))))))),res:=[(7,some (1,true)),(8,none)]}
def ft:Fn:={ nargs:=2,vars:=[0,1,2,3,4],body:=(.seq (.reg [w 2 (.bx v0 2),w 3 (.bx v1 1),w 4 (.mv (.c (.nil)))] []) (.seq (.reg [f 1 v2,g l0,u (.ln l0),u (.mf N.cI [.v 2,.v 3]),u (.ca N.b9 0 [] [.l 1,.l 0]),w 4 (.mv l0)] []) .ret)),res:=[(4,none)]}
def mR:C:=(.its [u (.bin .lss v9 v8)] [] 0 .skip (.exit 1) (.seq (.blk 2 (.seq (.reg [a 1 v7 v9,g l0,w 6 (.mv l0)] []) (.reg [f 1 v5,g l0,m v6,a 10 l1 l0,f 4 l0,u (.st l0 (.b false) 1 [])] []))) (.reg [u (.bin .add v9 (.i 1)),w 9 (.mv l0)] [])))
def r6:C:= .loop true [0,1,2,4,6] K.mR
def eL:Fn:={ nargs:=2,vars:=[0,1,2,4,5,6,8,30,31,32],body:=(.seq (.reg [w 2 (.bx v0 2),w 3 (.al [.nil,.nil] []),w 4 (.mv (.i 0))] []) (.seq (.blk 0 (.ite [h 2 v2,u (.ca N.dR 0 [] [.l 0]),u (.un .not l0),m l0] [] 0 (.seq (.reg [u (.bd [.nil,.nil] []),u (.st v3 l0 2 []),w 4 (.mv (.i 6))] []) .ret) (.ite [m v1,f 1 v2,g l0,u (.ln l0),u (.bin .sub l0 (.i 1)),u (.ca N.ef 0 [] [.l 4,.i 0,.l 0]),u (.un .not l0),m l0] [] 0 (.seq (.reg [u (.bd [.nil,.nil] []),u (.st v3 l0 2 []),w 4 (.mv (.i 4))] []) .ret) .skip))) (.seq (.reg [w 5 (.al [.nil,.nil] []),f 0 v2,g l0,u (.ca N.aF 0 [] [.l 0]),f 1 v2,g l0,u (.ca N.aK 1 [] [.l 0]),u (.bd [.nil,.nil] [(0,1,.l 3),(1,1,.l 0)]),u (.st l7 l0 2 [])] [(0,4),(0,7),(5,1)]) (.seq (.seq (.reg [w 7 (.mv v1),w 8 (.ln l0),w 9 (.mv (.i 0))] []) (.blk 1 K.r6)) (.seq (.reg [h 2 v5,u (.st v3 l0 2 []),w 4 (.mv (.i 0))] []) .ret))))),res:=[(3,some (2,true)),(4,none)]}
def fv:Fn:={ nargs:=3,vars:=[0,1,2,3,4,5,6],body:=(.seq (.reg [w 3 (.bx v0 1),w 4 (.bx v1 1),w 5 (.bx v2 1),w 6 (.mv (.c (.nil)))] []) (.seq (.ite [f 0 v3,g l0,u (.ln l0),u (.bin .eql l0 (.i 0))] [] 0 (.seq (.reg [w 6 (.mv (.c (.nil)))] []) .ret) .skip) (.seq (.reg [f 0 v3,g l0,a 2 l0 (.i 0),f 1 l0,g l0,u (.ln l0),u (.mf N.c7 [.v 3,.v 5,.v 4]),u (.ca N.b9 0 [] [.l 1,.l 0]),w 6 (.mv l0)] []) .ret))),res:=[(6,none)]}
def lr:Fn:={ nargs:=0,vars:=[0,1,2,3],body:=(.seq (.reg [w 0 (.al [.nil,.nil] [])] []) (.seq (.reg [u (.bd [.t (.int .i64 (0)),.t (.int .i64 (0))] [(0,1,.i 1),(1,1,.i 1)]),u (.bd [.t (.int .i64 (0)),.t (.int .i64 (0)),.t (.int .i64 (0)),.t (.int .i64 (0)),.t (.bool false),.t (.bool false),.t (.int .i64 (0)),.t (.int .i64 (0)),.t (.int .i64 (0)),.t (.int .i64 (0))] [(2,1,.i 12),(3,1,.i 1),(4,1,.b true),(6,2,.l 0)]),w 1 (.al [.t (.int .i64 (0)),.t (.int .i64 (0)),.t (.int .i64 (0)),.t (.int .i64 (0)),.t (.bool false),.t (.bool false),.t (.int .i64 (0)),.t (.int .i64 (0)),.t (.int .i64 (0)),.t (.int .i64 (0))] []),u (.st l0 l1 10 [])] []) (.seq (.reg [w 2 (.al [.t (.int .i64 (0)),.t (.int .i64 (0)),.t (.int .i64 (0)),.t (.int .i64 (0)),.t (.bool false),.t (.bool false),.t (.int .i64 (0)),.t (.int .i64 (0)),.t (.int .i64 (0)),.t (.int .i64 (0))] []),w 3 (.al [.t (.int .i64 (0)),.t (.int .i64 (0)),.t (.int .i64 (0)),.t (.int .i64 (0)),.t (.bool false),.t (.bool false),.t (.int .i64 (0)),.t (.int .i64 (0)),.t (.int .i64 (0)),.t (.int .i64 (0))] []),h 10 v1,h 10 v1,u (.st l3 l1 10 []),u (.st l3 l1 10 [])] [(3,5)]) (.seq (.reg [f 1 v2,u (.st l0 (.i 1) 1 []),f 0 v3,u (.st l0 (.i 1) 1 []),f 1 v3,u (.st l0 (.i 2) 1 [])] []) (.seq (.reg [u (.bd [.t (.int .i64 (0)),.t (.bool false)] [(1,1,.b true)]),u (.bd [.t (.int .i64 (0)),.t (.bool false)] []),u (.bd [.t (.int .i64 (0)),.t (.bool false)] []),u (.bs [.l 2,.l 1,.l 0] 2),h 10 v2,h 10 v3,u (.bs [.l 1,.l 0] 10),u (.bd [.nil,.nil] [(0,1,.l 3),(1,1,.l 0)]),u (.st v0 l0 2 [])] []) .ret))))),res:=[(0,some (2,true))]}
def lu:Fn:={ nargs:=3,vars:=[0,1,2,4],body:=(.seq (.reg [w 3 (.mv (.b false))] []) (.seq (.reg [g v1,m v0,a 1 l1 l0,g l0,u (.bin .lss l0 (.i 1099511627776)),m l0,y 0 true (.ld v1 1 false),y 1 true (.mv v0),y 2 true (.ia l1 l0 1),y 3 true (.ld l0 1 false),y 4 true (.ld v2 1 false),y 5 true (.bin .leq l1 l0),u (.pk l6 l0 (.b false)),w 3 (.mv l0)] []) .ret)),res:=[(3,none)]}
def eM:Fn:={ nargs:=2,vars:=[0,1,2,3],body:=(.seq (.reg [w 2 (.bx v0 2),w 3 (.mv (.b false))] []) (.seq (.reg [f 1 v2,g l0,u (.mf N.cH [.v 1]),u (.ca N.ae 0 [] [.l 1,.l 0]),w 3 (.mv l0)] []) .ret)),res:=[(3,none)]}
def cH:Fn:={ nargs:=2,vars:=[0,1,2,3],body:=(.seq (.reg [w 2 (.bx v0 2),w 3 (.mv (.b false))] []) (.seq (.reg [g v1,f 0 v2,g l0,u (.bin .lss l2 l0),w 3 (.mv l0)] []) .ret)),res:=[(3,none)]}
def pN:C:=(.its [u (.bin .lss v11 v10)] [] 0 .skip (.exit 0) (.seq (.blk 1 (.seq (.reg [a 1 v9 v11,g l0,w 8 (.mv l0)] []) (.reg [m v7,m v8,f 1 v4,g l0,m v8,a 1 l1 l0,g l0,a 1 l6 l5,u (.st l0 l1 1 [])] []))) (.reg [u (.bin .add v11 (.i 1)),w 11 (.mv l0)] [])))
def wC:C:= .loop true [0,1,6,8] K.pN
def ji:Fn:={ nargs:=3,vars:=[0,1,2,3,4,6,7,8,10,18,19,20],body:=(.seq (.reg [w 3 (.bx v0 2),w 4 (.bx v1 2),w 5 (.al [.t (.int .i64 (0)),.nil] []),w 6 (.mv (.i 0))] []) (.seq (.reg [u (.bs [.i 1099511627776] 1),f 1 v4,g l0,u (.ln l0),u (.ca N.bc 1 [] [.l 3,.l 0]),w 7 (.mv l0)] []) (.seq (.seq (.reg [h 2 v4,m v2,w 9 (.ca N.cT 0 [] [.l 1,.l 0]),w 10 (.ln l0),w 11 (.mv (.i 0))] []) (.blk 0 K.wC)) (.seq (.reg [h 2 v3,f 0 v4,g l0,m v7,u (.bd [.t (.int .i64 (0)),.nil] [(0,1,.l 1),(1,1,.l 0)]),m v2,u (.ca N.dt 0 [] [.l 5,.l 1,.l 0]),u (.ex l0 0),u (.ex l1 1),u (.st v5 l1 2 []),w 6 (.mv l1)] []) .ret)))),res:=[(5,some (2,true)),(6,none)]}
end Go.Ev.K
namespace Go.Ev
class mS [Lib]:Prop where
 kO:Lib.fs N.b5=some K.b5
 uq:Lib.fs N.fX=some K.fX
 Cw:Lib.fs N.qP=some K.qP
 sR:Lib.fs N.fq=some K.fq
 pO:Lib.fs N.ft=some K.ft
 pP:Lib.fs N.eL=some K.eL
 pQ:Lib.fs N.fv=some K.fv
 yp:Lib.fs N.lr=some K.lr
 yq:Lib.fs N.lu=some K.lu
 pR:Lib.fs N.eM=some K.eM
 mT:Lib.fs N.cH=some K.cH
 sT:Lib.fs N.ji=some K.ji
namespace K
variable [Lib] [mS]
theorem kO:Lib.fs N.b5=some K.b5:=mS.kO
theorem uq:Lib.fs N.fX=some K.fX:=mS.uq
theorem Cw:Lib.fs N.qP=some K.qP:=mS.Cw
theorem sR:Lib.fs N.fq=some K.fq:=mS.sR
theorem pO:Lib.fs N.ft=some K.ft:=mS.pO
theorem pP:Lib.fs N.eL=some K.eL:=mS.pP
theorem pQ:Lib.fs N.fv=some K.fv:=mS.pQ
theorem yp:Lib.fs N.lr=some K.lr:=mS.yp
theorem yq:Lib.fs N.lu=some K.lu:=mS.yq
theorem pR:Lib.fs N.eM=some K.eM:=mS.pR
theorem mT:Lib.fs N.cH=some K.cH:=mS.mT
theorem sT:Lib.fs N.ji=some K.ji:=mS.sT
end K
end Go.Ev
namespace Go.Ev.K
open Go.Ev
def cI:Fn:={ nargs:=3,vars:=[0,1,2,4,5],body:=(.seq (.reg [w 3 (.mv (.b false))] []) (.seq (.reg [f 1 v1,g l0,m v0,a 10 l1 l0,h 10 l0,w 4 (.al [.t (.int .i64 (0)),.t (.int .i64 (0)),.t (.int .i64 (0)),.t (.int .i64 (0)),.t (.bool false),.t (.bool false),.t (.int .i64 (0)),.t (.int .i64 (0)),.t (.int .i64 (0)),.t (.int .i64 (0))] []),u (.st l0 l1 10 [])] []) (.seq (.reg [g v2,f 0 v4,g l0,u (.ca N.aM 0 [] [.l 2,.l 0]),g v2,f 1 v4,g l0,u (.ca N.aM 0 [] [.l 2,.l 0]),u (.eqk (.bool) true l4 l0),m l0,y 0 true (.ld v1 2 true),y 1 true (.mv v0),y 2 true (.ca N.gQ 0 [] [.l 1,.l 0,.b false]),y 3 true (.bin .geq l0 (.i 0)),y 4 true (.mv l0),y 0 false (.ld v1 2 true),y 1 false (.mv v0),y 2 false (.ca N.gQ 0 [] [.l 1,.l 0,.b true]),y 3 false (.bin .geq l0 (.i 0)),y 9 true (.pk l4 (.b true) l0),u (.pk l10 l0 (.b false)),w 3 (.mv l0)] [(4,0),(6,0)]) .ret))),res:=[(3,none)]}
def aF:Fn:={ nargs:=1,vars:=[0,2],body:=(.seq (.reg [w 1 (.mv (.c (.nil)))] []) (.itk [m v0,u (.eqk (.sl) false l0 (.c (.nil)))] [] 0 (.seq (.reg [w 1 (.nw 2)] []) .ret) .skip (.seq (.reg [u (.bsr [] 2),m v0,u (.app l1 l0 false 2),w 1 (.mv l0)] []) .ret))),res:=[(1,none)]}
def aK:Fn:={ nargs:=1,vars:=[0,2],body:=(.seq (.reg [w 1 (.mv (.c (.nil)))] []) (.itk [m v0,u (.eqk (.sl) false l0 (.c (.nil)))] [] 0 (.seq (.reg [w 1 (.nw 10)] []) .ret) .skip (.seq (.reg [u (.bsr [] 10),m v0,u (.app l1 l0 false 10),w 1 (.mv l0)] []) .ret))),res:=[(1,none)]}
def c7:Fn:={ nargs:=4,vars:=[0,1,2,3,5],body:=(.seq (.reg [w 4 (.mv (.b false))] []) (.seq (.reg [h 1 v1,m v0,g v2,u (.ca N.dw 0 [] [.l 2,.l 1,.l 0]),u (.mf N.b6 [.v 3]),u (.ca N.az 0 [] [.l 1,.l 0]),w 4 (.mv l0)] []) .ret)),res:=[(4,none)]}
def b6:Fn:={ nargs:=2,vars:=[0,1,3],body:=(.seq (.reg [w 2 (.mv (.b false))] []) (.seq (.reg [g v1,m v0,u (.ca N.aM 0 [] [.l 1,.l 0]),w 2 (.mv l0)] []) .ret)),res:=[(2,none)]}
end Go.Ev.K
namespace Go.Ev
class rJ [Lib]:Prop where
 mU:Lib.fs N.cI=some K.cI
 dv:Lib.fs N.aF=some K.aF
 dJ:Lib.fs N.aK=some K.aK
 mV:Lib.fs N.c7=some K.c7
 kP:Lib.fs N.b6=some K.b6
namespace K
variable [Lib] [rJ]
theorem mU:Lib.fs N.cI=some K.cI:=rJ.mU
theorem dv:Lib.fs N.aF=some K.aF:=rJ.dv
theorem dJ:Lib.fs N.aK=some K.aK:=rJ.dJ
theorem mV:Lib.fs N.c7=some K.c7:=rJ.mV
theorem kP:Lib.fs N.b6=some K.b6:=rJ.kP
end K
end Go.Ev
namespace Go.Ev
open Go
variable [Lib] [cn] [bR] [gL] [gF] [gg] [gh] [i5] [gK] [mS] [rJ]
abbrev MD(l:List Int):Obj:= .arr 1 false 0 ((l.map (T.int .i64)).map .t)
end Go.Ev
namespace Go.Ev
open Go
variable [Lib] [cn] [bR]
@[go_sem] theorem RW (l : List Place) : nK 2 (l.map Place.e) = true := by cases l <;> rfl
@[go_sem] theorem Ut (l : List Road) : nK 10 (l.map Road.e) = true := by cases l <;> rfl
@[go_sem] theorem Uu (H : aj) (d : aC) : LN H 0 1 false (some d.obj) = some (.t (tL d.L), H) := by simp only [aC.obj, go_sem]
def aC.eo(d:aC):Nat→List Place×aC
 | 0=>([],d)
 | k+1=>if k=0 then((d.eo k).1++[⟨-10*((d.eo k).2.next 4).1,true⟩],((d.eo k).2.next 4).2)
   else((d.eo k).1++[⟨-10*((d.eo k).2.next 4).1,(((d.eo k).2.next 4).2.one 6).1⟩],(((d.eo k).2.next 4).2.one 6).2)
def aC.Hb(d:aC)(i:Int):Road×aC:=
 (⟨i-1-(d.next (min i 2)).1,i,1+((d.next (min i 2)).2.of [11,59,119,4]).1,1+(((d.next (min i 2)).2.of [11,59,119,4]).2.of [9,3,19]).1,true,false,1,1,0,0⟩,
   (((d.next (min i 2)).2.of [11,59,119,4]).2.of [9,3,19]).2)
def aC.kh(d:aC):Nat→List Road×aC
 | 0=>([],d)
 | k+1=>((d.kh k).1++[((d.kh k).2.Hb (k+1)).1],((d.kh k).2.Hb (k+1)).2)
def aC.pS(d:aC)(n:Int):Road×aC:=
 let a:=d.next n
 let b:=a.2.next n
 let l:=b.2.of [11,59,199]
 let r:=l.2.of [9,3]
 let w:=r.2.next 5
 let c:=w.2.one 6
 (⟨a.1,b.1,1+l.1,1+r.1,decide (0<w.1),c.1,1,1,0,0⟩,c.2)
def aC.more(n:Int)(l:List Road)(d:aC):Nat→List Road×aC
 | 0=>(l,d)
 | k+1=>if l.length<10 then aC.more n (if(d.pS n).1.frm=(d.pS n).1.to then l else l++[(d.pS n).1]) (d.pS n).2 k else(l,d)
def aC.sU(d:aC):Nat:=if d.L.length=0 then 4 else(2+(d.next 6).1).toNat
def aC.JN(d:aC):List Place×aC:=(d.next 6).2.eo d.sU
def aC.AS(d:aC):List Road×aC:=d.JN.2.kh (d.sU-1)
def aC.ME(d:aC):List Road×aC:=aC.more d.sU d.AS.1 (d.AS.2.next 4).2 (d.AS.2.next 4).1.toNat
def aC.ON(d:aC):aT×aC:=(⟨d.JN.1,d.ME.1⟩,d.ME.2)
theorem aC.kj{d:aC}(h:d.dY):∀n,(d.eo n).2.dY
 | 0=>h
 | n+1=>by
   unfold aC.eo
   split
   · exact aC.aV (aC.kj h n) 4
   · exact aC.Ce (aC.aV (aC.kj h n) 4) 6
theorem aC.pT(d:aC):∀n,(d.eo n).1.length=n
 | 0=>rfl
 | n+1=>by
   unfold aC.eo
   split<;>simp[d.pT n]
theorem aC.Em{d:aC}(h:d.dY)(i:Int):(d.Hb i).2.dY:=aC.pA (aC.pA (aC.aV h _) _) _
theorem aC.nD{d:aC}(h:d.dY):∀n,(d.kh n).2.dY
 | 0=>h
 | n+1=>aC.Em (aC.nD h n) _
theorem aC.rA(d:aC):∀n,(d.kh n).1.length=n
 | 0=>rfl
 | n+1=>by simp[aC.kh,d.rA n]
theorem aC.yr{d:aC}(h:d.dY)(n:Int):(d.pS n).2.dY:=by
 unfold aC.pS;simp only
 exact aC.Ce (aC.aV (aC.pA (aC.pA (aC.aV (aC.aV h _) _) _) _) _) _
theorem aC.zQ(n:Int):∀(k:Nat) (l:List Road) {d:aC},d.dY→(aC.more n l d k).2.dY
 | 0,l,d,h=>h
 | k+1,l,d,h=>by
   unfold aC.more
   split
   · exact aC.zQ n k _ (aC.yr h n)
   · exact h
theorem aC.Hc{d:aC}(h:d.dY):d.ON.2.dY:=
 aC.zQ _ _ _ (aC.aV (aC.nD (aC.kj (aC.aV h _) _) _) _)
abbrev AT:List D:=[I 0,I 0,I 12,I 10,B true,B false,I 1,I 1,I 0,I 0]
theorem Hd(d:aC)(hd:d.dY)(n:Nat)(hn:n≤8)(a b c e f:D):
 exS aO K.oy ⟨[.bp 0 0,.bp 1 0,.bp 2 0,I n,I 0,a,b,c,e,f],[d.obj,.box [.nil,.nil],.box [.ref 3 0 0,.ref 4 0 0],.arr 2 false 0 [],.arr 10 false 0 []]⟩=
 some (.exit 0,⟨[.bp 0 0,.bp 1 0,.bp 2 0,I n,I n,.und,.und,.und,.und,.und],[(d.eo n).2.obj,.box [.nil,.nil],.box [.ref 3 0 (d.eo n).1.length,.ref 4 0 0],.arr 2 false 0 (((d.eo n).1.map Place.e).map .t),.arr 10 false 0 []]⟩):=by
 refine dC (fun j=>⟨[.bp 0 0,.bp 1 0,.bp 2 0,I n,I j,.und,.und,.und,.und,.und],[(d.eo j).2.obj,.box [.nil,.nil],.box [.ref 3 0 (d.eo j).1.length,.ref 4 0 0],.arr 2 false 0 (((d.eo j).1.map Place.e).map .t),.arr 10 false 0 []]⟩) n rfl ?_ ?_ (by simp)
 · intro j hj
   have ln:=d.pT j
   have lt:=aC.kj hd j
   simp only[aC.eo]
   generalize d.eo j=s at*
   obtain⟨l,d1⟩:=s
   simp only at ln lt ⊢
   have h1:=fV d1 4 (by omega) lt
   have b1:=d1.dG 4
   have b2:=d1.dH (n:=4) (by omega)
   have l1:=aC.aV lt 4
   generalize d1.next 4=a1 at*
   obtain⟨x,d2⟩:=a1
   simp only at h1 b1 b2 l1 ⊢
   by_cases j0:j=0
   · subst j0
     simp (disch:=omega) only[go_sem,K.iq,h1,↓reduceIte,Nat.reduceAdd,Nat.reduceSub]
   · have h2:=NY d2 6 (by omega) (by omega) l1
     simp (disch:=omega) only[go_sem,K.iq,h1,h2,j0,↓reduceIte,Nat.reduceAdd,Nat.reduceSub]
 · simp (disch:=omega) only[go_sem,K.iq,↓reduceIte]
theorem He(d:aC)(hd:d.dY)(n:Nat)(hn:n≤8)(h1:1≤n)(ps:List Place)(a b c e:D):
 exS aO K.oz ⟨[.bp 0 0,.bp 1 0,.bp 2 0,I n,a,.bp 5 0,I 1,b,c,e],[d.obj,.box [.nil,.nil],.box [.ref 3 0 ps.length,.ref 4 0 0],.arr 2 false 0 ((ps.map Place.e).map .t),.arr 10 false 0 [],.box AT]⟩=
 some (.exit 2,⟨[.bp 0 0,.bp 1 0,.bp 2 0,I n,.und,.bp 5 0,I n,.und,.und,.und],[(d.kh (n-1)).2.obj,.box [.nil,.nil],.box [.ref 3 0 ps.length,.ref 4 0 (d.kh (n-1)).1.length],.arr 2 false 0 ((ps.map Place.e).map .t),.arr 10 false 0 (((d.kh (n-1)).1.map Road.e).map .t),.box AT]⟩):=by
 refine dC (fun j=>⟨[.bp 0 0,.bp 1 0,.bp 2 0,I n,.und,.bp 5 0,I (j+1),.und,.und,.und],[(d.kh j).2.obj,.box [.nil,.nil],.box [.ref 3 0 ps.length,.ref 4 0 (d.kh j).1.length],.arr 2 false 0 ((ps.map Place.e).map .t),.arr 10 false 0 (((d.kh j).1.map Road.e).map .t),.box AT]⟩) (n-1) rfl ?_ ?_ (by simp)
 · intro j hj
   have ln:=d.rA j
   have lt:=aC.nD hd j
   simp only[aC.kh]
   generalize d.kh j=s at*
   obtain⟨l,d1⟩:=s
   simp only[aC.Hb]at ln lt ⊢
   have h1:=fV d1 (min ((j:Int)+1) 2) (by omega) lt
   have b1:=d1.dG (min ((j:Int)+1) 2)
   have b2:=d1.dH (n:=min ((j:Int)+1) 2) (by omega)
   have l1:=aC.aV lt (min ((j:Int)+1) 2)
   generalize d1.next (min ((j:Int)+1) 2)=a1 at*
   obtain⟨x,d2⟩:=a1
   simp only at h1 b1 b2 l1 ⊢
   have h2:=Ma d2 [11,59,119,4] (by simp) (by simp) l1
   have m2:=d2.vZ (l:=[11,59,119,4]) (by simp)
   have l2:=aC.pA l1 [11,59,119,4]
   generalize d2.of [11,59,119,4]=a2 at*
   obtain⟨y,d3⟩:=a2
   simp only[tL,List.map_cons,List.map_nil]at h2 m2 l2 ⊢
   have h3:=Ma d3 [9,3,19] (by simp) (by simp) l2
   have m3:=d3.vZ (l:=[9,3,19]) (by simp)
   generalize d3.of [9,3,19]=a3 at*
   obtain⟨z,d4⟩:=a3
   simp only[tL,List.map_cons,List.map_nil,List.mem_cons,List.not_mem_nil,or_false]at h3 m2 m3 ⊢
   simp (disch:=omega) only[go_sem,K.j5,h1,h2,h3,↓reduceIte,Nat.reduceAdd,Nat.reduceSub]
 · simp (disch:=omega) only[go_sem,K.j5,↓reduceIte]
   rw[show((n-1:Nat):Int)+1=n by omega]
abbrev Cx(d:aC)(ps:List Place)(l:List Road):aj:=[d.obj,.box [.nil,.nil],.box [.ref 3 0 ps.length,.ref 4 0 l.length],.arr 2 false 0 ((ps.map Place.e).map .t),.arr 10 false 0 ((l.map Road.e).map .t),.box AT]
theorem Hf(d:aC)(hd:d.dY)(n:Int)(hn:1≤n)(hn2:n≤8)(ps:List Place)(l:List Road)(hl:l.length<10)(k:Nat)(hk:k≤10):
 eY true [4,6,7,9] 6 (exS aO K.dB ⟨[.bp 0 0,.bp 1 0,.bp 2 0,I n,.und,.bp 5 0,.und,.und,I (k+1),.und],Cx d ps l⟩)=
 some ⟨[.bp 0 0,.bp 1 0,.bp 2 0,I n,.und,.bp 5 0,.und,.und,I k,.und],Cx (d.pS n).2 ps (if(d.pS n).1.frm=(d.pS n).1.to then l else l++[(d.pS n).1])⟩:=by
 unfold aC.pS Cx
 simp only
 have h1:=fV d n (by omega) hd
 have l1:=aC.aV hd n
 generalize d.next n=a1 at*
 obtain⟨x1,d1⟩:=a1
 simp only at h1 l1 ⊢
 have h2:=fV d1 n (by omega) l1
 have l2:=aC.aV l1 n
 generalize d1.next n=a2 at*
 obtain⟨x2,d2⟩:=a2
 simp only at h2 l2 ⊢
 have h3:=Ma d2 [11,59,199] (by simp) (by simp) l2
 have m3:=d2.vZ (l:=[11,59,199]) (by simp)
 have l3:=aC.pA l2 [11,59,199]
 generalize d2.of [11,59,199]=a3 at*
 obtain⟨x3,d3⟩:=a3
 simp only[tL,List.map_cons,List.map_nil]at h3 m3 l3 ⊢
 have h4:=Ma d3 [9,3] (by simp) (by simp) l3
 have m4:=d3.vZ (l:=[9,3]) (by simp)
 have l4:=aC.pA l3 [9,3]
 generalize d3.of [9,3]=a4 at*
 obtain⟨x4,d4⟩:=a4
 simp only[tL,List.map_cons,List.map_nil]at h4 m4 l4 ⊢
 have h5:=fV d4 5 (by omega) l4
 have l5:=aC.aV l4 5
 generalize d4.next 5=a5 at*
 obtain⟨x5,d5⟩:=a5
 simp only at h5 l5 ⊢
 have h6:=NY d5 6 (by omega) (by omega) l5
 generalize d5.one 6=a6 at*
 obtain⟨x6,d6⟩:=a6
 simp only[List.mem_cons,List.not_mem_nil,or_false]at h6 m3 m4 ⊢
 by_cases e:x1=x2
 · simp (disch:=omega) only[go_sem,K.dB,h1,h2,h3,h4,h5,h6,e,↓reduceIte,Nat.reduceAdd,Nat.reduceSub]
 · simp (disch:=omega) only[go_sem,K.dB,h1,h2,h3,h4,h5,h6,e,↓reduceIte,Nat.reduceAdd,Nat.reduceSub]
theorem zR(n:Int)(hn:1≤n)(hn2:n≤8)(ps:List Place):∀(k:Nat) (d:aC) (l:List Road),d.dY→l.length≤10→k≤10→
 ∃z:Int,mz true [4,6,7,9] (exS aO K.dB) ⟨[.bp 0 0,.bp 1 0,.bp 2 0,I n,.und,.bp 5 0,.und,.und,I k,.und],Cx d ps l⟩=
 some (.exit 4,⟨[.bp 0 0,.bp 1 0,.bp 2 0,I n,.und,.bp 5 0,.und,.und,I z,.und],Cx (aC.more n l d k).2 ps (aC.more n l d k).1⟩)
 | 0,d,l,hd,hl,hk=>by
   refine⟨0,dk ?_ (by simp)⟩
   simp (disch:=omega) only[go_sem,K.dB,aC.more,↓reduceIte,Nat.reduceAdd,Nat.reduceSub]
 | k+1,d,l,hd,hl,hk=>by
   by_cases h:l.length<10
   · have hr:=Hf d hd n hn hn2 ps l h k (by omega)
     obtain⟨z,hz⟩:=zR n hn hn2 ps k (d.pS n).2 (if(d.pS n).1.frm=(d.pS n).1.to then l else l++[(d.pS n).1]) (aC.yr hd n) (by split<;>(try rw[List.length_append,List.length_singleton])<;>omega) (by omega)
     refine⟨z,jO hr ?_⟩
     rw[hz]
     simp only[aC.more,if_pos h]
   · refine⟨(k:Int)+1,dk ?_ (by simp)⟩
     simp (disch:=omega) only[go_sem,K.dB,aC.more,↓reduceIte,Nat.reduceAdd,Nat.reduceSub]
theorem aC.FU(n:Int):∀(k:Nat) (l:List Road) (d:aC),l.length≤10→(aC.more n l d k).1.length≤10
 | 0,l,d,h=>h
 | k+1,l,d,h=>by
   unfold aC.more
   split
   · exact aC.FU n k _ _ (by split<;>(try rw[List.length_append,List.length_singleton])<;>omega)
   · exact h
theorem aC.xi(d:aC):2≤d.sU∧d.sU≤7:=by
 unfold aC.sU
 have:=d.dG 6
 have:=d.dH (n:=6) (by omega)
 split<;>omega
theorem RX(d:aC)(hd:d.dY):aO 0 N.cB [.bp 0 0] [d.obj]=some (.t d.ON.1.e,[d.ON.2.obj]):=by
 refine ax K.lF rfl ?_
 have nb:=d.xi
 unfold aC.ON
 have h0:=fV d 6 (by omega) hd
 have l0:=aC.aV hd 6
 have b1:=d.dG 6
 have b2:=d.dH (n:=6) (by omega)
 have hL:=d.NX 6
 have hN:(d.sU:Int)=if d.L.length=0 then 4 else 2+(d.next 6).1:=by unfold aC.sU;split<;>omega
 have e1:d.ME=aC.more d.sU d.AS.1 (d.AS.2.next 4).2 (d.AS.2.next 4).1.toNat:=rfl
 have e2:d.AS=d.JN.2.kh (d.sU-1):=rfl
 have e3:d.JN=(d.next 6).2.eo d.sU:=rfl
 generalize d.ME=X at*
 generalize d.AS=R at*
 generalize d.JN=P at*
 generalize d.sU=n at*
 generalize d.next 6=a at*
 obtain⟨x,d1⟩:=a
 simp only at h0 l0 b1 b2 hL hN e3 ⊢
 have q1:=Hd d1 l0 n (by omega)
 have lP:=aC.kj l0 n
 have nP:=d1.pT n
 rw[← e3]at q1 lP nP
 obtain⟨ps,d2⟩:=P
 simp only at q1 lP nP e2 ⊢
 have q2:=He d2 lP n (by omega) (by omega) ps
 have lR:=aC.nD lP (n-1)
 have nR:=d2.rA (n-1)
 rw[← e2]at q2 lR nR
 obtain⟨rs,d3⟩:=R
 simp only at q2 lR nR e1 ⊢
 have h4:=fV d3 4 (by omega) lR
 have l4:=aC.aV lR 4
 have b3:=d3.dG 4
 have b4:=d3.dH (n:=4) (by omega)
 generalize d3.next 4=c at*
 obtain⟨y,d4⟩:=c
 simp only at h4 l4 b3 b4 e1 ⊢
 obtain⟨z,q3⟩:=zR n (by omega) (by omega) ps y.toNat d4 rs l4 (by omega) (by omega)
 rw[← e1]at q3
 have q3:=uZ (vs:=[.bp 0 0,.bp 1 0,.bp 2 0,I n,.und,.bp 5 0,I n,.und,I y.toNat,.und]) q3
 have ey:(y.toNat:Int)=y:=by omega
 rw[ey]at q3
 obtain⟨xs,d5⟩:=X
 have fin:∀k:Int,(exS aO K.oA ⟨[.bp 0 0,.bp 1 0,.bp 2 0,I n,.und,.bp 5 0,I n,.und,I y,.und],Cx d4 ps rs⟩)=
  some (.exit 4,⟨[.bp 0 0,.bp 1 0,.bp 2 0,I n,.und,.bp 5 0,.und,.und,I z,.und],Cx d5 ps xs⟩):=fun _=>q3
 clear q3
 have q3:=fin 0
 clear fin
 simp only[Cx]at q3
 by_cases c0:d.L.length=0
 · rw[if_pos c0]at hN
   obtain rfl:n=4:=by omega
   have e4:((4:Nat):Int)=4:=rfl
   simp only[e4]at q1 q2 q3
   simp (disch:=omega) only[go_sem,K.cB,↓reduceIte,h0,c0,q1,q2,q3,h4,hL,Nat.reduceAdd,Nat.reduceSub]
 · rw[if_neg c0]at hN
   simp (disch:=omega) only[go_sem,K.cB,↓reduceIte,h0,c0,q1,q2,q3,h4,hL,hN.symm,Nat.reduceAdd,Nat.reduceSub]
theorem aC.MF(d:aC){n:Nat}{i:Int}(h1:1≤i)(h2:i<n):(d.Hb i).1.ok n:=by
 have b1:=d.dG (min i 2)
 have b2:=d.dH (n:=min i 2) (by omega)
 have m2:=(d.next (min i 2)).2.vZ (l:=[11,59,119,4]) (by simp)
 have m3:=((d.next (min i 2)).2.of [11,59,119,4]).2.vZ (l:=[9,3,19]) (by simp)
 simp only[List.mem_cons,List.not_mem_nil,or_false]at m2 m3
 unfold aC.Hb
 constructor<;>(simp only;omega)
theorem aC.Cy(d:aC){n:Nat}:∀k,k+1≤n→∀r∈(d.kh k).1,r.ok n
 | 0,_,r,hr=>by simp[aC.kh]at hr
 | k+1,h,r,hr=>by
   simp only[aC.kh,List.mem_append,List.mem_singleton]at hr
   rcases hr with hr | rfl
   · exact d.Cy k (by omega) r hr
   · exact aC.MF _ (by omega) (by omega)
theorem aC.MG(d:aC){n:Nat}(hn:1≤n)(hne:(d.pS n).1.frm≠(d.pS n).1.to):(d.pS n).1.ok n:=by
 unfold aC.pS at hne ⊢
 simp only at hne ⊢
 have b1:=d.dG n
 have b2:=d.dH (n:=(n:Int)) (by omega)
 generalize d.next n=a1 at*
 obtain⟨x1,d1⟩:=a1
 simp only at*
 have c1:=d1.dG n
 have c2:=d1.dH (n:=(n:Int)) (by omega)
 generalize d1.next n=a2 at*
 obtain⟨x2,d2⟩:=a2
 simp only at*
 have m3:=d2.vZ (l:=[11,59,199]) (by simp)
 generalize d2.of [11,59,199]=a3 at*
 obtain⟨x3,d3⟩:=a3
 simp only at*
 have m4:=d3.vZ (l:=[9,3]) (by simp)
 generalize d3.of [9,3]=a4 at*
 obtain⟨x4,d4⟩:=a4
 simp only[List.mem_cons,List.not_mem_nil,or_false]at m3 m4 ⊢
 constructor<;>(simp only;omega)
theorem aC.JO{n:Nat}(hn:1≤n):∀(k:Nat) (l:List Road) (d:aC),(∀r∈l,r.ok n)→∀r∈(aC.more n l d k).1,r.ok n
 | 0,l,d,h=>h
 | k+1,l,d,h=>by
   unfold aC.more
   split
   · refine aC.JO hn k _ _ ?_
     split
     · exact h
     · rename_i hne
       intro r hr
       rcases List.mem_append.1 hr with hr | hr
       · exact h r hr
       · rw[List.mem_singleton.1 hr];exact d.MG hn hne
   · exact h
theorem aC.Cz(n:Int):∀(k:Nat) (l:List Road) (d:aC),l.length≤(aC.more n l d k).1.length
 | 0,l,d=>Nat.le_refl _
 | k+1,l,d=>by
   unfold aC.more
   split
   · refine Nat.le_trans ?_ (aC.Cz n k _ _)
     split<;>(try rw[List.length_append])<;>omega
   · exact Nat.le_refl _
theorem aC.CA(d:aC):∀k,∀p∈(d.eo k).1, -30≤p.h∧p.h≤0
 | 0,p,hp=>by simp[aC.eo]at hp
 | k+1,p,hp=>by
   have b1:=(d.eo k).2.dG 4
   have b2:=(d.eo k).2.dH (n:=4) (by omega)
   unfold aC.eo at hp
   split at hp
   all_goals
    simp only[List.mem_append,List.mem_singleton]at hp
    rcases hp with hp | rfl
    · exact d.CA k p hp
    · simp only;omega
theorem aC.yu(d:aC):d.ON.1.places.length=d.sU:=aC.pT _ _
theorem aC.zS(d:aC):d.sU-1≤d.ON.1.roads.length∧d.ON.1.roads.length≤10:=by
 have nb:=d.xi
 have e:d.AS.1.length=d.sU-1:=aC.rA _ _
 constructor
 · rw[← e];exact aC.Cz _ _ _ _
 · exact aC.FU _ _ _ _ (by omega)
theorem aC.JP(d:aC):d.ON.1.ok:=by
 have nb:=d.xi
 have h1:=d.yu
 have h2:=d.zS
 refine⟨by omega,by omega,fun p hp=>?_,?_⟩
 · have:=aC.CA _ _ p hp;omega
 · rw[h1]
   exact aC.JO (by omega) _ _ _ (aC.Cy _ _ (by omega))
@[go_sem] theorem Xs (l : List Spn) : nK 2 (l.map Spn.e) = true := by cases l <;> rfl
@[go_sem] theorem acC (l : List Spn) (k : Nat) (a b : Int) : (List.map D.t (List.map Spn.e l)).set k (D.t (T.agg [tI a, tI b])) = List.map D.t (List.map Spn.e (l.set k ⟨a, b⟩)) := by
 rw[List.map_set,List.map_set]
@[go_sem] theorem adN (H : aj) (sz : Nat) (a b c d e f : T) : zF H sz [.t a, .t b, .t c, .t d, .t e, .t f] = if cm sz [a, b, c, d, e, f] = true then some (.t (.sl [a, b, c, d, e, f]), H) else none := qq H sz [a, b, c, d, e, f]
@[go_sem] theorem adO (H : aj) (sz : Nat) (a b c d e f g : T) : zF H sz [.t a, .t b, .t c, .t d, .t e, .t f, .t g] = if cm sz [a, b, c, d, e, f, g] = true then some (.t (.sl [a, b, c, d, e, f, g]), H) else none := qq H sz [a, b, c, d, e, f, g]
@[go_sem] theorem adP (H : aj) (sz : Nat) (a b c d e f g h : T) : zF H sz [.t a, .t b, .t c, .t d, .t e, .t f, .t g, .t h] = if cm sz [a, b, c, d, e, f, g, h] = true then some (.t (.sl [a, b, c, d, e, f, g, h]), H) else none := qq H sz [a, b, c, d, e, f, g, h]
@[go_sem] theorem Xt {α β γ : Type} {l : List α} {g : α → β} {f : β → γ} {x : γ} {j : Nat} (h : j = l.length) : (List.map f (List.map g l) ++ [x])[j]? = some x := by
 rw[List.getElem?_append_right (by simp;omega)];simp[h]
@[go_sem] theorem ZY {α β γ : Type} {l : List α} {g : α → β} {f : β → γ} {x y : γ} {j : Nat} (h : j = l.length) : (List.map f (List.map g l) ++ [x]).set j y = List.map f (List.map g l) ++ [y] := by
 rw[List.set_append_right _ _ (by simp;omega)];simp[h]
def aC.Xu(d:aC):Spn×aC:=
 let a:=d.of [0,1000,5000,20000, -5000, -20000,4999,100]
 let b:=a.2.of [0,1,1000,6000]
 let c:=b.2.of [0,1,500]
 let w:=c.2.one 9
 (if w.1=true then⟨-1125899906842624,1125899906842624⟩else⟨a.1-b.1,a.1+c.1⟩,w.2)
def aC.FV(d:aC):Nat→List Spn×aC
 | 0=>([],d)
 | k+1=>((d.FV k).1++[((d.FV k).2.Xu).1],((d.FV k).2.Xu).2)
def aC.acD(d:aC)(m:aT):List Spn×aC:=d.FV m.roads.length
theorem JQ{gc:Bool}{dead:List Nat}{c:C}{vs:List D}{H:aj}(P:Nat→St→Prop)(n:Nat)(Q:Ex×St→Prop)(h0:P 0 ⟨jA dead vs,H⟩)
 (hs:∀j st,j<n→P j st→(∃st',eY gc dead st.H.length (exS aO c st)=some st'∧P (j+1) st')∨∃q,exS aO c st=some q∧q.1≠ .normal∧Q q)
 (he:∀st,P n st→∃q,exS aO c st=some q∧q.1≠ .normal∧Q q):∃q,exS aO (.loop gc dead c) ⟨vs,H⟩=some q∧Q q:=by
 have key:∀(k j:Nat) (st:St),j+k=n→P j st→∃q,mz gc dead (exS aO c) st=some q∧Q q:=by
  intro k
  induction k with
  | zero=>
    intro j st hj hp
    obtain⟨q,h1,h2,h3⟩:=he st (by rw[← hj];exact hp)
    exact⟨q,dk h1 h2,h3⟩
  | succ k ih=>
    intro j st hj hp
    rcases hs j st (by omega) hp with⟨st',h1,h2⟩ | ⟨q,h1,h2,h3⟩
    · obtain⟨q,h3,h4⟩:=ih (j+1) st' (by omega) h2
      exact⟨q,jO h1 h3,h4⟩
    · exact⟨q,dk h1 h2,h3⟩
 exact key n 0 _ (by omega) h0
theorem Xv(l:List Int):aO 0 N.jd [.t (tL l)] []=some (.bp 0 0,[aC.obj ⟨l,0⟩]):=by
 refine ax K.sE rfl ?_
 simp (disch:=omega) only[go_sem,K.jd,↓reduceIte,aC.obj,Nat.reduceAdd,Nat.reduceSub]
theorem OO{d:aC}(hd:d.dY)(n:Int)(h1:1≤n)(hn:n≤4611686018427387904):
 ∃(v:Int) (e:aC),aO 0 N.aB [.bp 0 0,I n] [d.obj]=some (I v,[e.obj])∧e.dY∧0≤v∧v<n:=
 ⟨_,_,fV d n hn hd,aC.aV hd n,d.dG n,d.dH h1⟩
theorem Xw{d:aC}(hd:d.dY):
 ∃(m:aT) (e:aC),aO 0 N.cB [.bp 0 0] [d.obj]=some (.t m.e,[e.obj])∧e.dY∧m.ok∧2≤m.places.length∧m.places.length≤7∧1≤m.roads.length∧m.roads.length≤10:=by
 have b:=d.xi
 have p:=d.yu
 have r:=d.zS
 exact⟨_,_,RX d hd,aC.Hc hd,d.JP,by omega,by omega,by omega,by omega⟩
end Go.Ev
namespace Go.Ev
open Go
variable [Lib] [cn] [bR] [gL] [gF]
abbrev never:Int:=1099511627776
abbrev Wh.box(w:Wh):Obj:= .box [I w.time,.t (tL w.frm)]
def Hg(w:Wh)(p:Int):Bool:=decide (0≤p∧p≤(w.frm.length:Int)-1)&& !decide (nth w.frm p.toNat=never)
theorem CB(w:Wh)(hw:w.frm.length≤4294967296)(p:Int):aO 0 N.b8 [I p,.bp 0 0] [w.box]=some (B (Hg w p),[w.box]):=by
 refine ax K.od rfl ?_
 have i:=GW p 0 ((w.frm.length:Int)-1)
 unfold Hg
 obtain⟨time,frm⟩:=w
 simp only at*
 by_cases h:0≤p∧p≤(frm.length:Int)-1
 · simp only[h,and_self,decide_true]at i
   obtain⟨h1,h2⟩:=h
   have g:(frm.map (T.int .i64))[p.toNat]?=some (tI (nth frm p.toNat)):=cR _ (by omega)
   by_cases c:nth frm p.toNat=never
   · simp (disch:=omega) only[go_sem,K.b8,↓reduceIte,i,g,Nat.reduceAdd,Nat.reduceSub]
   · simp (disch:=omega) only[go_sem,K.b8,↓reduceIte,i,g,Nat.reduceAdd,Nat.reduceSub]
 · simp only[h,decide_false]at i
   simp only[h,decide_false,Bool.false_and]
   simp (disch:=omega) only[go_sem,K.b8,↓reduceIte,i,Nat.reduceAdd,Nat.reduceSub]
def JR(area:List Int)(ws:List Wh)(k:Nat):Bool:=area.any (Hg (nth ws k))
def MH(area:List Int)(xs:List World)(i:Nat):Bool:=(List.range (nth xs i).whr.length).any (JR area (nth xs i).whr)
def r7(b:Bel)(area:List Int):Bool:= !(List.range b.worlds.length).any (MH area b.worlds)
abbrev tW(ws:List Wh):T:= .sl (ws.map Wh.e)
abbrev tX(xs:List World):T:= .sl (xs.map World.e)
theorem CC(area:List Int)(ha:area.length≤4294967296)(xs:List World)(tags:List Int)(ws:List Wh)(hw:ws.length≤1000000)(hf:∀w∈ws,w.frm.length≤1000000)(i:Nat)(a b c d e:D):
 exS aO K.um ⟨[a,.t (tL area),b,c,d,e,.t (tX xs),I xs.length,I i,.t (tW ws),I ws.length,I 0],[.box [.t (tX xs)],.box [.t (tL tags),.t (tW ws)]]⟩=
 some (if(List.range ws.length).any (JR area ws)=true
  then(.ret,⟨[.und,.t (tL area),.und,B false,.und,.bp 2 0,.t (tX xs),I xs.length,I i,.t (tW ws),I ws.length,I (qa ws.length (JR area ws))],[.box [.t (tX xs)],.box [.t (tL tags),.t (tW ws)],(nth ws (qa ws.length (JR area ws))).box]⟩)
  else(.exit 2,⟨[.und,.t (tL area),.und,.und,.und,.und,.t (tX xs),I xs.length,I i,.t (tW ws),I ws.length,I ws.length],[.box [.t (tX xs)],.box [.t (tL tags),.t (tW ws)]]⟩)):=by
 refine yj (fun k=>⟨[.und,.t (tL area),.und,.und,.und,.und,.t (tX xs),I xs.length,I i,.t (tW ws),I ws.length,I k],[.box [.t (tX xs)],.box [.t (tL tags),.t (tW ws)]]⟩) ws.length (JR area ws)
  (fun k=>(.ret,⟨[.und,.t (tL area),.und,B false,.und,.bp 2 0,.t (tX xs),I xs.length,I i,.t (tW ws),I ws.length,I k],[.box [.t (tX xs)],.box [.t (tL tags),.t (tW ws)],(nth ws k).box]⟩)) _ rfl ?_ ?_ ?_ (by simp)
 · intro k hk hp
   have g:(ws.map Wh.e)[k]?=some (nth ws k).e:=cR _ hk
   have f:=hf _ (aa hk)
   unfold JR at hp
   have cf:aO 0 N.az [.t (tL area),.fn N.b8 [.bp 0 0]] [(nth ws k).box]=some (B (area.any (Hg (nth ws k))),[(nth ws k).box]):=
    kd area ha N.b8 [[tI (nth ws k).time,tL (nth ws k).frm]] (Hg (nth ws k)) (fun p _=>CB (nth ws k) (by omega) p)
   rw[hp]at cf
   generalize nth ws k=w at*
   obtain⟨time,frm⟩:=w
   simp only[Wh.box]at*
   simp (disch:=omega) only[go_sem,K.kX,↓reduceIte,g,cf,Nat.reduceAdd,Nat.reduceSub]
 · intro k hk hp
   refine⟨?_,by simp⟩
   have g:(ws.map Wh.e)[k]?=some (nth ws k).e:=cR _ hk
   have f:=hf _ (aa hk)
   unfold JR at hp
   have cf:aO 0 N.az [.t (tL area),.fn N.b8 [.bp 0 0]] [(nth ws k).box]=some (B (area.any (Hg (nth ws k))),[(nth ws k).box]):=
    kd area ha N.b8 [[tI (nth ws k).time,tL (nth ws k).frm]] (Hg (nth ws k)) (fun p _=>CB (nth ws k) (by omega) p)
   rw[hp]at cf
   generalize nth ws k=w at*
   obtain⟨time,frm⟩:=w
   simp only[Wh.box]at*
   simp (disch:=omega) only[go_sem,K.kX,↓reduceIte,g,cf,Nat.reduceAdd,Nat.reduceSub]
 · simp (disch:=omega) only[go_sem,K.kX,↓reduceIte,Nat.reduceAdd,Nat.reduceSub]
theorem FW(b:Bel)(hb:b.sz)(area:List Int)(ha:area.length≤4294967296):aO 0 N.fg [.t b.e,.t (tL area)] []=some (B (r7 b area),[]):=by
 refine ax K.qO rfl ?_
 obtain⟨xs⟩:=b
 obtain⟨hb1,hb2⟩:=hb
 simp only at hb1 hb2
 have loop:∀a b c e f g:D,exS aO K.uo ⟨[.t (Bel.mk xs).e,.t (tL area),.bp 0 0,a,b,c,.t (tX xs),I xs.length,I 0,e,f,g],[.box [.t (tX xs)]]⟩=
  some (if(List.range xs.length).any (MH area xs)=true
   then(fun j=>(.ret,⟨[.und,.t (tL area),.und,B false,.und,.bp 2 0,.t (tX xs),I xs.length,I j,.t (tW (nth xs j).whr),I (nth xs j).whr.length,I (qa (nth xs j).whr.length (JR area (nth xs j).whr))],
    [.box [.t (tX xs)],.box [.t (tL (nth xs j).tags),.t (tW (nth xs j).whr)],(nth (nth xs j).whr (qa (nth xs j).whr.length (JR area (nth xs j).whr))).box]⟩):Nat→Ex×St) (qa xs.length (MH area xs))
   else(.exit 0,⟨[.und,.t (tL area),.und,.und,.und,.und,.t (tX xs),I xs.length,I xs.length,.und,.und,.und],[.box [.t (tX xs)]]⟩)):=by
  intro a b c e f g
  refine yj (fun j=>⟨[.und,.t (tL area),.und,.und,.und,.und,.t (tX xs),I xs.length,I j,.und,.und,.und],[.box [.t (tX xs)]]⟩) xs.length (MH area xs)
   (fun j=>(.ret,⟨[.und,.t (tL area),.und,B false,.und,.bp 2 0,.t (tX xs),I xs.length,I j,.t (tW (nth xs j).whr),I (nth xs j).whr.length,I (qa (nth xs j).whr.length (JR area (nth xs j).whr))],
    [.box [.t (tX xs)],.box [.t (tL (nth xs j).tags),.t (tW (nth xs j).whr)],(nth (nth xs j).whr (qa (nth xs j).whr.length (JR area (nth xs j).whr))).box]⟩)) _ rfl ?_ ?_ ?_ (by simp)
  · intro j hj hp
    have g1:(xs.map World.e)[j]?=some (nth xs j).e:=cR _ hj
    obtain⟨s1,s2,s3⟩:=hb2 _ (aa hj)
    have l2:=fun a b c d e=>CC area ha xs (nth xs j).tags (nth xs j).whr s2 s3 j a b c d e
    unfold MH at hp
    rw[hp]at l2
    simp only[Bool.false_eq_true,↓reduceIte]at l2
    generalize nth xs j=x at*
    obtain⟨tags,whr⟩:=x
    simp only at*
    simp (disch:=omega) only[go_sem,K.kY,↓reduceIte,g1,l2,Nat.reduceAdd,Nat.reduceSub]
  · intro j hj hp
    refine⟨?_,by simp⟩
    have g1:(xs.map World.e)[j]?=some (nth xs j).e:=cR _ hj
    obtain⟨s1,s2,s3⟩:=hb2 _ (aa hj)
    have l2:=fun a b c d e=>CC area ha xs (nth xs j).tags (nth xs j).whr s2 s3 j a b c d e
    unfold MH at hp
    rw[hp]at l2
    simp only[↓reduceIte]at l2
    generalize nth xs j=x at*
    obtain⟨tags,whr⟩:=x
    simp only at*
    simp (disch:=omega) only[go_sem,K.kY,↓reduceIte,g1,l2,Nat.reduceAdd,Nat.reduceSub]
  · simp (disch:=omega) only[go_sem,K.kY,↓reduceIte,Nat.reduceAdd,Nat.reduceSub]
 unfold r7
 simp (disch:=omega) only[go_sem,K.fg,↓reduceIte,loop,Nat.reduceAdd,Nat.reduceSub]
 cases hf:(List.range xs.length).any (MH area xs)with
 | true=>
   simp (disch:=omega) only[go_sem,↓reduceIte,Nat.reduceAdd,Nat.reduceSub]
 | false=>simp (disch:=omega) only[go_sem,↓reduceIte,Bool.false_eq_true,Nat.reduceAdd,Nat.reduceSub]
structure Req where
 x:MB
 s:ZW
 k:Keys
 b:Bel
 t:Int
 from_:Int
abbrev Req.e(r:Req):T:= .agg [tL r.x.area,tI r.x.hold,tI r.x.mis,tI r.s.st,tI r.s.fi,tI r.s.se,tI r.s.ti,tL r.k.roads,tL r.k.keys,.bool r.k.out,.sl (r.b.worlds.map World.e),tI r.t,tI r.from_]
structure Req.sz(r:Req):Prop where
 hx:r.x.area.length≤1000000
 hk:r.k.roads.length≤1000000
 hk2:r.k.keys.length≤1000000
 hb:r.b.sz
section
variable (x : MB) (s : ZW) (k : Keys) (b : Bel) (hx : x.area.length ≤ 1000000) (hk : k.roads.length ≤ 1000000) (hk2 : k.keys.length ≤ 1000000) (hb : b.sz)
include hx hk hk2 hb
end
end Go.Ev
namespace Go.Ev
open Go
variable [Lib] [cn] [bR] [gL] [gF]
section
variable (area : List Int) (ha : area.length ≤ 1000000) (xs : List World) (hx : xs.length ≤ 1000000)
include ha hx
end
end Go.Ev
namespace Go.Ev.K
open Go.Ev
def cT:Fn:={ nargs:=2,vars:=[0,1,2,3,4],body:=(.seq (.reg [w 2 (.bx v0 2),w 3 (.bx v1 1),w 4 (.mv (.c (.nil)))] []) (.seq (.reg [f 1 v2,g l0,u (.ln l0),u (.mf N.bG [.v 2,.v 3]),u (.ca N.b9 0 [] [.l 1,.l 0]),w 4 (.mv l0)] []) .ret)),res:=[(4,none)]}
def bG:Fn:={ nargs:=3,vars:=[0,1,2,4],body:=(.seq (.reg [w 3 (.mv (.b false))] []) (.seq (.reg [f 1 v1,g l0,m v0,a 1 l1 l0,g l0,g v2,u (.bin .leq l1 l0),w 3 (.mv l0)] []) .ret)),res:=[(3,none)]}
end Go.Ev.K
namespace Go.Ev
class km [Lib]:Prop where
 kQ:Lib.fs N.cT=some K.cT
 jD:Lib.fs N.bG=some K.bG
namespace K
variable [Lib] [km]
theorem kQ:Lib.fs N.cT=some K.cT:=km.kQ
theorem jD:Lib.fs N.bG=some K.bG:=km.jD
end K
end Go.Ev
namespace Go.Ev.K
open Go.Ev
end Go.Ev.K
namespace Go.Ev
class fI [Lib]:Prop where
namespace K
variable [Lib] [fI]
end K
end Go.Ev
namespace Go.Ev
open Go
variable [Lib] [cn] [bR] [gL] [gF] [km] [gg] [gh] [i5] [gK] [fI]
end Go.Ev
namespace Go.Ev
open Go
theorem En{d:D}{n:Int}(h:E5 d=some n):d= .t (.int .i64 n):=by
 unfold E5 at h
 split at h
 · cases h;rfl
 · cases h
theorem JS:∀ {es:List D} {l:List Int},bO E5 es=some l→es=l.map fun x=> .t (.int .i64 x)
 | [],l,h=>by simp[bO]at h;subst h;rfl
 | e::r,l,h=>by
   simp only[bO,Option.bind_eq_some_iff,Option.map_eq_some_iff]at h
   obtain⟨x,hx,y,hy,rfl⟩:=h
   rw[En hx,JS hy];rfl
theorem yv(x:Int):∀l,(OY x l).Perm (x::l)
 | []=> .refl _
 | y::r=>by
   unfold OY
   split
   · exact .refl _
   · exact((yv x r).cons y).trans (.swap x y r)
theorem jR:∀l,(iL l).Perm l
 | []=> .refl _
 | x::r=>(yv x _).trans ((jR r).cons x)
theorem JT{x:Int}:∀ {l:List Int},l.Pairwise (· ≤ ·)→(OY x l).Pairwise (· ≤ ·)
 | [],_=>by simp[OY]
 | y::r,h=>by
   unfold OY
   split
   · rename_i hx
     refine List.pairwise_cons.2 ⟨fun z hz=>?_,h⟩
     rcases List.mem_cons.1 hz with rfl | hz
     · exact hx
     · have:=(List.pairwise_cons.1 h).1 z hz;omega
   · rename_i hx
     have h':=List.pairwise_cons.1 h
     refine List.pairwise_cons.2 ⟨fun z hz=>?_,JT h'.2⟩
     have hz:=(yv x r).mem_iff.1 hz
     rcases List.mem_cons.1 hz with rfl | hz
     · omega
     · exact h'.1 z hz
theorem ur:∀l,(iL l).Pairwise (· ≤ ·)
 | []=> .nil
 | x::r=>JT (ur r)
theorem lx(l:List Int):(iL l).length=l.length:=(jR l).length_eq
theorem FX(l:List Int):(l.mergeSort fun x y=>decide (x≤y))=iL l:=by
 refine List.Perm.eq_of_pairwise (le:=(· ≤ ·)) (fun a b _ _ h1 h2=>by omega) ?_ (ur l) ((List.mergeSort_perm _ _).trans (jR l).symm)
 have:=List.pairwise_mergeSort (le:=fun x y:Int=>decide (x≤y)) (fun a b c=>by simp;omega) (fun a b=>by simp;omega) l
 exact this.imp (by simp)
end Go.Ev
namespace Go.Ev
open Go
variable [Lib] [cn] [bR] [gL] [gF] [km] [gg] [gh] [i5] [gK] [fI]
section
variable (k : Keys) (hl : k.keys.length ≤ 1000000) (hr : k.roads.length ≤ 1000000)
include hl hr
end
end Go.Ev
namespace Go.Ev
open Go
variable [Lib] [cn] [bR] [gL] [gF] [km] [gg] [gh] [i5] [gK] [fI]
theorem acE{a b:List Int}(ha:a.Pairwise (· ≤ ·))(hb:b.Pairwise (· ≤ ·))(p:a.Perm b):a=b:=
 List.Perm.eq_of_pairwise (le:=(· ≤ ·)) (fun a b _ _ h1 h2=>by omega) ha hb p
section
variable (b u v y : Obj) (ds : aj)
end
end Go.Ev
namespace Go.Ev.K
open Go.Ev
def bI:C:=(.its [u (.bin .lss v10 v9)] [] 0 .skip (.exit 0) (.seq (.blk 1 (.seq (.reg [m v10,a 2 v8 v10,h 2 l0,w 7 (.al [.nil,.nil] []),w 6 (.mv l3),u (.st l1 l2 2 [])] []) (.blk 2 (.ite [f 0 v7,g l0,u (.ln l0),u (.ca N.eu 0 [] [.l 0,.i 1,.i 12]),u (.un .not l0),m l0,y 0 false (.fa v7 1),y 1 false (.ld l0 1 false),y 2 false (.ln l0),y 3 false (.fa v7 0),y 4 false (.ld l0 1 false),y 5 false (.ln l0),y 6 false (.bin .neq l3 l0),u (.pk l7 (.b true) l0),m l0,y 0 false (.fa v7 0),y 1 false (.ld l0 1 false),y 2 false (.ca N.eZ 0 [] [.l 0]),y 3 false (.un .not l0),u (.pk l4 (.b true) l0),m l0] [] 0 (.seq (.reg [w 4 (.mv (.b false))] []) .ret) (.ite [f 0 v7,g l0,u (.ca N.bg 0 [] [.l 0]),u (.ca N.bS 0 [] [.l 0]),m v5,u (.ca N.aX 0 [] [.l 1,.l 0]),u (.un .not l0),m l0] [] 0 (.seq (.reg [w 4 (.mv (.b false))] []) .ret) (.ite [m v6,u (.bin .gtr l0 (.i 0)),m l0,y 0 true (.fa v3 0),y 1 true (.ld l0 1 false),y 2 true (.mv v6),y 3 true (.bin .sub l0 (.i 1)),y 4 true (.ia l2 l0 2),y 5 true (.fa l0 0),y 6 true (.ld l0 1 false),y 7 true (.fa v7 0),y 8 true (.ld l0 1 false),y 9 true (.ca N.aQ 0 [] [.l 2,.l 0]),y 10 true (.bin .geq l0 (.i 0)),u (.pk l11 l0 (.b false)),m l0] [] 0 (.seq (.reg [w 4 (.mv (.b false))] []) .ret) (.ite [f 1 v7,g l0,u (.mf N.cZ [.v 2]),u (.ca N.ae 0 [] [.l 1,.l 0]),m l0] [] 0 (.seq (.reg [w 4 (.mv (.b false))] []) .ret) .skip))))))) (.reg [u (.bin .add v10 (.i 1)),w 10 (.mv l0)] [])))
def oe:C:= .loop true [0,1,4,6,7] K.bI
def eJ:Fn:={ nargs:=2,vars:=[0,1,2,3,4,5,6,7,26,27,28],body:=(.seq (.reg [w 2 (.bx v0 2),w 3 (.bx v1 1),w 4 (.mv (.b false))] []) (.seq (.ite [h 2 v2,u (.ca N.dR 0 [] [.l 0]),u (.un .not l0),m l0,y 0 false (.fa v3 0),y 1 false (.ld l0 1 false),y 2 false (.ln l0),y 3 false (.ca N.eu 0 [] [.l 0,.i 1,.i 24]),y 4 false (.un .not l0),u (.pk l5 (.b true) l0)] [] 0 (.seq (.reg [w 4 (.mv (.b false))] []) .ret) .skip) (.seq (.reg [f 0 v3,g l0,a 2 l0 (.i 0),f 0 l0,g l0,u (.ca N.bg 0 [] [.l 0]),u (.ca N.bS 0 [] [.l 0]),w 5 (.mv l0)] []) (.seq (.seq (.reg [f 0 v3,w 8 (.ld l0 1 false),w 9 (.ln l0),w 10 (.mv (.i 0))] []) (.blk 0 K.oe)) (.seq (.reg [w 4 (.mv (.b true))] []) .ret))))),res:=[(4,none)]}
def bS:Fn:={ nargs:=1,vars:=[2],body:= .fail,res:=[(0,none)],prim:=[2,N.aN]}
def bg:Fn:={ nargs:=1,vars:=[0,1,2],body:=(.seq (.reg [w 1 (.bx v0 1),w 2 (.mv (.c (.und)))] []) (.seq (.reg [u (.mf N.aN [.v 1]),w 2 (.mv l0)] []) .ret)),res:=[(2,none)]}
def eZ:Fn:={ nargs:=1,vars:=[0,2,3],body:=(.seq (.reg [w 1 (.mv (.b false))] []) (.seq (.reg [m v0,u (.ca N.bg 0 [] [.l 0]),u (.ca N.bS 0 [] [.l 0]),w 2 (.mv l0)] []) (.seq (.reg [m v2,u (.ca N.ef 0 [] [.l 0,.i 1,.i 65535]),w 1 (.mv l0)] []) .ret))),res:=[(1,none)]}
def cL:C:=(.its [u (.bin .lss v9 v8)] [] 0 .skip (.exit 0) (.seq (.blk 1 (.seq (.reg [m v9,a 1 v7 v9,g l0,w 3 (.mv l2),w 4 (.mv l1)] []) (.seq (.ite [m v3,m v1,u (.ln l0),u (.bin .geq l2 l0)] [] 0 (.seq (.reg [w 2 (.mv (.i 1))] []) .ret) .skip) (.seq (.reg [m v1,m v3,a 1 l1 l0,g l0,w 5 (.mv l0)] []) (.seq (.reg [m v4,m v5,u (.ca N.bZ 0 [] [.l 1,.l 0]),w 6 (.mv l0)] []) (.ite [m v6,u (.bin .neq l0 (.i 0))] [] 0 (.seq (.reg [m v6,w 2 (.mv l0)] []) .ret) .skip)))))) (.reg [u (.bin .add v9 (.i 1)),w 9 (.mv l0)] [])))
def jj:C:= .loop true [2,3,4,5,6] K.cL
def aQ:Fn:={ nargs:=2,vars:=[0,1,4,5,6,7,8,9,10,11],body:=(.seq (.reg [w 2 (.mv (.i 0))] []) (.seq (.seq (.reg [w 7 (.mv v0),w 8 (.ln l0),w 9 (.mv (.i 0))] []) (.blk 0 K.jj)) (.seq (.ite [m v0,u (.ln l0),m v1,u (.ln l0),u (.bin .lss l2 l0)] [] 0 (.seq (.reg [w 2 (.mv (.i (-1)))] []) .ret) .skip) (.seq (.reg [w 2 (.mv (.i 0))] []) .ret)))),res:=[(2,none)]}
def ae:Fn:={ nargs:=2,vars:=[0,1,4],body:=(.seq (.reg [w 2 (.mv (.b false))] []) (.seq (.reg [m v0,m v1,u (.ca N.av 0 [] [.l 1,.l 0]),u (.bin .geq l0 (.i 0)),w 2 (.mv l0)] []) .ret)),res:=[(2,none)]}
def cZ:Fn:={ nargs:=2,vars:=[0,1,2,3],body:=(.seq (.reg [w 2 (.bx v0 2),w 3 (.mv (.b false))] []) (.seq (.reg [h 2 v1,h 2 v2,u (.ca N.eh 0 [] [.l 1,.l 0]),u (.un .not l0),w 3 (.mv l0)] []) .ret)),res:=[(3,none)]}
def mW:C:=(.its [u (.bin .lss v5 v4)] [] 0 .skip (.exit 0) (.seq (.blk 1 (.seq (.reg [a 1 v3 v5,g l0,w 2 (.mv l0)] []) (.ite [m v0,m v2,u (.cw l1 0 [] [.l 0]),u (.un .not l0)] [] 0 .ret .skip))) (.reg [u (.bin .add v5 (.i 1)),w 5 (.mv l0)] [])))
def m9:C:= .loop true [1,2] K.mW
def aN:Fn:={ nargs:=2,vars:=[0,1,4,5,6,7],body:=(.seq (.reg [w 3 (.ld v1 1 false),w 4 (.ln l0),w 5 (.mv (.i 0))] []) (.blk 0 K.m9)),res:=[]}
def bZ:Fn:={ nargs:=2,vars:=[0,1,4,5,6],body:=(.seq (.reg [w 2 (.mv (.i 0))] []) (.seq (.reg [m v0,u (.ca N.cmp_isNaN_int 0 [] [.l 0]),w 3 (.mv l0)] []) (.seq (.reg [m v1,u (.ca N.cmp_isNaN_int 0 [] [.l 0]),w 4 (.mv l0)] []) (.seq (.ite [m v3] [] 0 (.seq (.ite [m v4] [] 0 (.seq (.reg [w 2 (.mv (.i 0))] []) .ret) .skip) (.seq (.reg [w 2 (.mv (.i (-1)))] []) .ret)) .skip) (.seq (.ite [m v4] [] 0 (.seq (.reg [w 2 (.mv (.i 1))] []) .ret) .skip) (.seq (.ite [m v0,m v1,u (.bin .lss l1 l0)] [] 0 (.seq (.reg [w 2 (.mv (.i (-1)))] []) .ret) .skip) (.seq (.ite [m v0,m v1,u (.bin .gtr l1 l0)] [] 0 (.seq (.reg [w 2 (.mv (.i 1))] []) .ret) .skip) (.seq (.reg [w 2 (.mv (.i 0))] []) .ret)))))))),res:=[(2,none)]}
def aZ:C:=(.its [u (.bin .lss v5 v4)] [] 0 .skip (.exit 0) (.seq (.blk 1 (.seq (.reg [m v5,w 3 (.mv l0)] []) (.ite [m v1,m v0,m v3,a 2 l1 l0,h 2 l0,u (.cw l4 0 [] [.l 0])] [] 0 (.seq (.reg [m v3,w 2 (.mv l0)] []) .ret) .skip))) (.reg [u (.bin .add v5 (.i 1)),w 5 (.mv l0)] [])))
def cA:C:= .loop true [2,3] K.aZ
def av:Fn:={ nargs:=2,vars:=[0,1,4,5,7,8],body:=(.seq (.reg [w 2 (.mv (.i 0))] []) (.seq (.seq (.reg [m v0,w 4 (.ln l0),w 5 (.mv (.i 0))] []) (.blk 0 K.cA)) (.seq (.reg [w 2 (.mv (.i (-1)))] []) .ret))),res:=[(2,none)]}
def cmp_isNaN_int:Fn:={ nargs:=1,vars:=[0,2],body:=(.seq (.reg [w 1 (.mv (.b false))] []) (.seq (.reg [m v0,m v0,u (.bin .neq l1 l0),w 1 (.mv l0)] []) .ret)),res:=[(1,none)]}
end Go.Ev.K
namespace Go.Ev
class eO [Lib]:Prop where
 pU:Lib.fs N.eJ=some K.eJ
 jE:Lib.fs N.bS=some K.bS
 gM:Lib.fs N.bg=some K.bg
 oh:Lib.fs N.eZ=some K.eZ
 gA:Lib.fs N.aQ=some K.aQ
 bC:Lib.fs N.ae=some K.ae
 mX:Lib.fs N.cZ=some K.cZ
 jk:Lib.fs N.aN=some K.aN
 kR:Lib.fs N.bZ=some K.bZ
 bD:Lib.fs N.av=some K.av
 mY:Lib.fs N.cmp_isNaN_int=some K.cmp_isNaN_int
namespace K
variable [Lib] [eO]
theorem pU:Lib.fs N.eJ=some K.eJ:=eO.pU
theorem jE:Lib.fs N.bS=some K.bS:=eO.jE
theorem gM:Lib.fs N.bg=some K.bg:=eO.gM
theorem oh:Lib.fs N.eZ=some K.eZ:=eO.oh
theorem gA:Lib.fs N.aQ=some K.aQ:=eO.gA
theorem bC:Lib.fs N.ae=some K.ae:=eO.bC
theorem mX:Lib.fs N.cZ=some K.cZ:=eO.mX
theorem jk:Lib.fs N.aN=some K.aN:=eO.jk
theorem kR:Lib.fs N.bZ=some K.bZ:=eO.kR
theorem bD:Lib.fs N.av=some K.av:=eO.bD
theorem mY:Lib.fs N.cmp_isNaN_int=some K.cmp_isNaN_int:=eO.mY
end K
end Go.Ev
namespace Go.Ev
open Go
variable [Lib] [cn] [bR] [gL] [gF] [km] [gg] [gh] [i5] [gK] [fI] [eO]
theorem yx(l:List Int):aO 0 N.bg [.t (tL l)] []=some (.fn N.aN [.bp 0 0],[.box [.t (tL l)]]):=by
 refine ax K.gM rfl ?_
 simp (disch:=omega) only[go_sem,K.bg,↓reduceIte,Nat.reduceAdd,Nat.reduceSub]
theorem Hh(l:List Int):xm (tL l)=some l:=by
 unfold xm
 simp only
 induction l with
 | nil=>rfl
 | cons x l ih=>
   simp only[List.map_cons,bO]at ih ⊢
   rw[ih];rfl
theorem yy(l:List Int)(hl:l.length≤1000000):aO 0 N.bS [.fn N.aN [.bp 0 0]] [.box [.t (tL l)]]=some (.t (tL (iL l)),[.box [.t (tL l)]]):=by
 refine Cd K.jE (by decide) ?_
 show uL [2,N.aN] _ _=_
 simp only[uL,if_true,List.getElem?_cons_zero,rL,Option.bind_some,Hh]
 rw[if_pos (by unfold lim;omega)]
theorem FY(a:Int):aO 0 N.cmp_isNaN_int [I a] []=some (B false,[]):=by
 refine ax K.mY rfl ?_
 simp (disch:=omega) only[go_sem,K.cmp_isNaN_int,↓reduceIte,decide_true,Bool.not_true,Nat.reduceAdd,Nat.reduceSub]
def JU(a b:Int):Int:=if a<b then -1 else if b<a then 1 else 0
theorem OP(a b:Int):aO 0 N.bZ [I a,I b] []=some (I (JU a b),[]):=by
 refine ax K.kR rfl ?_
 have h1:=FY a
 have h2:=FY b
 unfold JU
 by_cases c1:a<b
 · simp (disch:=omega) only[go_sem,K.bZ,↓reduceIte,h1,h2,c1,Bool.false_eq_true,Nat.reduceAdd,Nat.reduceSub]
 · by_cases c2:b<a
   · simp (disch:=omega) only[go_sem,K.bZ,↓reduceIte,h1,h2,c1,c2,Bool.false_eq_true,Nat.reduceAdd,Nat.reduceSub]
   · simp (disch:=omega) only[go_sem,K.bZ,↓reduceIte,h1,h2,c1,c2,Bool.false_eq_true,Nat.reduceAdd,Nat.reduceSub]
def FZ(a b:List Int)(j:Nat):Bool:=decide (b.length≤j)||decide (nth a j≠nth b j)
def MI(a b:List Int):Int:=match (List.range a.length).find? (FZ a b)with
 | some j=>if b.length≤j then 1 else JU (nth a j) (nth b j)
 | none=>if a.length<b.length then -1 else 0
theorem zT(a b:List Int)(ha:a.length≤1000000)(hb:b.length≤1000000):aO 0 N.aQ [.t (tL a),.t (tL b)] []=some (I (MI a b),[]):=by
 refine ax K.gA rfl ?_
 have loop:∀z2 z3 z4 z5 z6:D,exS aO K.jj ⟨[.t (tL a),.t (tL b),z2,z3,z4,z5,z6,.t (tL a),I a.length,I 0],[]⟩=
  some (match (List.range a.length).find? (FZ a b)with
   | some j=>(.ret,⟨[.t (tL a),.t (tL b),I (if b.length≤j then 1 else JU (nth a j) (nth b j)),I j,I (nth a j),if b.length≤j then .und else I (nth b j),if b.length≤j then .und else I (JU (nth a j) (nth b j)),.t (tL a),I a.length,I j],[]⟩)
   | none=>(.exit 0,⟨[.t (tL a),.t (tL b),.und,.und,.und,.und,.und,.t (tL a),I a.length,I a.length],[]⟩)):=by
  intro z2 z3 z4 z5 z6
  refine cF (fun j=>⟨[.t (tL a),.t (tL b),.und,.und,.und,.und,.und,.t (tL a),I a.length,I j],[]⟩) a.length (FZ a b) _ _ rfl ?_ ?_ ?_ (by simp)
  · intro j hj hp
    simp only[FZ,Bool.or_eq_false_iff,decide_eq_false_iff_not,Decidable.not_not]at hp
    obtain⟨h1,h2⟩:=hp
    have c:=OP (nth a j) (nth b j)
    rw[h2]at c
    have e:JU (nth b j) (nth b j)=0:=by unfold JU;rw[if_neg (by omega),if_neg (by omega)]
    rw[e]at c
    simp (disch:=omega) only[go_sem,K.cL,↓reduceIte,h2,c,Nat.reduceAdd,Nat.reduceSub]
  · intro j hj hp
    refine⟨?_,by simp⟩
    by_cases h1:b.length≤j
    · rw[if_pos h1,if_pos h1,if_pos h1]
      simp (disch:=omega) only[go_sem,K.cL,↓reduceIte,Nat.reduceAdd,Nat.reduceSub]
    · rw[if_neg h1,if_neg h1,if_neg h1]
      have h2:nth a j≠nth b j:=by simpa [FZ,h1]using hp
      have c:=OP (nth a j) (nth b j)
      have e:JU (nth a j) (nth b j)≠0:=by
       unfold JU;split
       · omega
       · split<;>omega
      generalize JU (nth a j) (nth b j)=v at*
      simp (disch:=omega) only[go_sem,K.cL,↓reduceIte,c,e,Nat.reduceAdd,Nat.reduceSub]
  · simp (disch:=omega) only[go_sem,K.cL,↓reduceIte,Nat.reduceAdd,Nat.reduceSub]
 unfold MI
 cases hf:(List.range a.length).find? (FZ a b)with
 | some j=>
   simp only[hf]at loop
   simp (disch:=omega) only[go_sem,K.aQ,↓reduceIte,loop,Nat.reduceAdd,Nat.reduceSub]
 | none=>
   simp only[hf]at loop
   by_cases h:a.length<b.length
   · simp (disch:=omega) only[go_sem,K.aQ,↓reduceIte,loop,h,Nat.reduceAdd,Nat.reduceSub]
   · simp (disch:=omega) only[go_sem,K.aQ,↓reduceIte,loop,h,Nat.reduceAdd,Nat.reduceSub]
end Go.Ev
namespace Go.Ev
open Go
variable [Lib] [cn] [bR]
theorem pV:∀ {l l':List Int},l.Nodup→(∀x∈l,x∈l')→l.length≤l'.length
 | [],_,_,_=>by simp
 | a::l,l',hn,hs=>by
   obtain⟨h1,h2⟩:=List.nodup_cons.1 hn
   have ha:a∈l':=hs a List.mem_cons_self
   have:=pV (l:=l) (l':=l'.erase a) h2 fun x hx=>by
    have hne:x≠a:=fun e=>h1 (e▸hx)
    exact(List.mem_erase_of_ne hne).2 (hs x (List.mem_cons_of_mem _ hx))
   have h3:=List.length_erase_of_mem ha
   have h4:0<l'.length:=List.length_pos_of_mem ha
   simp only[List.length_cons]
   omega
theorem kS{l:List Int}{x:Int}:0≤bM l x↔x∈l:=by
 unfold bM
 cases hf:(List.range l.length).find? (fun j=>decide (nth l j=x))with
 | some j=>
   obtain⟨h1,h2⟩:=x8 hf
   have:=aa h1
   rw[of_decide_eq_true h2]at this
   simp[this]
 | none=>
   have:=List.find?_eq_none.1 hf
   simp only[Int.reduceNeg]
   constructor
   · intro h;simp at h
   · intro h
     obtain⟨j,hj⟩:=List.mem_iff_getElem?.1 h
     have hl:=(List.getElem?_eq_some_iff.1 hj).1
     have:=this j (List.mem_range.2 hl)
     rw[bB hj]at this
     simp at this
theorem iR{l:List Int}(h:eH l=true):l.Nodup:=by
 simp only[eH,List.all_eq_true,List.mem_range,mQ,decide_eq_true_eq]at h
 refine List.pairwise_iff_getElem.2 fun i j hi hj hij e=>?_
 obtain⟨-, -,h3⟩:=h j hj
 have h4:¬nth l j∈l.take j:=fun hm=>by have:=kS.2 hm;omega
 apply h4
 apply List.mem_iff_getElem?.2
 refine⟨i,?_⟩
 rw[List.getElem?_take_of_lt hij,List.getElem?_eq_getElem hi,e,←List.getElem?_eq_getElem hj,iP hj]
theorem eR{m:aT}{b:Bel}(h:pI m b=true):1≤b.worlds.length∧b.worlds.length≤24∧1≤(nth b.worlds 0).tags.length∧(nth b.worlds 0).tags.length≤12∧
 ∀i,i<b.worlds.length→oI m b.worlds (nth b.worlds 0).tags i=true:=by
 simp only[pI,Bool.and_eq_true,decide_eq_true_eq,List.all_eq_true,List.mem_range]at h
 exact⟨h.1.1.1,h.1.1.2,h.1.2.1,h.1.2.2,h.2⟩
theorem gN{m:aT}{ws:List World}{first:List Int}{i:Nat}(h:oI m ws first i=true):(nth ws i).tags.length=first.length∧(nth ws i).whr.length=first.length∧eH (nth ws i).tags=true∧
 ∀k,k<(nth ws i).tags.length→nth (nth ws i).tags k∈first∧cO m (nth (nth ws i).whr k)=true:=by
 simp only[oI,Bool.and_eq_true,decide_eq_true_eq,List.all_eq_true,List.mem_range,H8]at h
 exact⟨h.1.1.1.1,h.1.1.1.2,h.1.1.2,fun k hk=>⟨kS.1 (h.2 k hk).1,(h.2 k hk).2⟩⟩
theorem yz{m:aT}{b:Bel}(h:pI m b=true){tag:Int}(ht:0≤bM (nth b.worlds 0).tags tag){i:Nat}(hi:i<b.worlds.length):
 0≤bM (nth b.worlds i).tags tag:=by
 obtain⟨h1,h2,h3,h4,h5⟩:=eR h
 obtain⟨w1,w2,w3,w4⟩:=gN (h5 i hi)
 apply kS.2
 apply Classical.byContradiction
 intro hn
 have:=pV (l:=tag::(nth b.worlds i).tags) (l':=(nth b.worlds 0).tags) (List.nodup_cons.2 ⟨hn,iR w3⟩) (by
  intro x hx
  rcases List.mem_cons.1 hx with e | hx
  · rw[e];exact kS.1 ht
  · obtain⟨j,hj⟩:=List.mem_iff_getElem?.1 hx
    have:=(w4 j (List.getElem?_eq_some_iff.1 hj).1).1
    rwa [bB hj]at this)
 simp only[List.length_cons]at this
 omega
def ly(m:aT)(b:Bel)(tag:Int):Int:=if pI m b=false then 6 else if bM (nth b.worlds 0).tags tag<0 then 41 else 0
theorem F3{m:aT}(h:m.ok)(b:Bel)(hs:b.sz)(tag:Int):aO 0 N.dO [.t m.e,.t b.e,I tag] []=some (I (ly m b tag),[]):=by
 refine ax K.pf rfl ?_
 have v:=Eg h b hs
 unfold ly
 cases hv:pI m b with
 | false=>
   rw[hv]at v
   obtain⟨ws⟩:=b
   simp (disch:=omega) only[go_sem,K.dO,↓reduceIte,v]
 | true=>
   rw[hv]at v
   obtain⟨h1,h2,h3,h4,h5⟩:=eR hv
   have br:=mP (nth b.worlds 0).tags tag (by omega)
   obtain⟨ws⟩:=b
   simp only at h1 br ⊢
   by_cases c:bM (nth ws 0).tags tag<0
   · simp (disch:=omega) only[go_sem,K.dO,↓reduceIte,v,br,c,Bool.true_eq_false]
   · simp (disch:=omega) only[go_sem,K.dO,↓reduceIte,v,br,c,Bool.true_eq_false]
def MJ(a b:Wh)(t:Int):Bool:=(List.range (min a.frm.length b.frm.length)).any fun p=>decide (nth a.frm p≤t∧nth b.frm p≤t)
theorem RY(a b:Wh)(t:Int)(ha:a.frm.length≤1000000):aO 0 N.gU [.t a.e,.t b.e,I t] []=some (B (MJ a b t),[]):=by
 refine ax K.qy rfl ?_
 obtain⟨t1,l1⟩:=a
 obtain⟨t2,l2⟩:=b
 unfold MJ
 simp only at ha ⊢
 have loop:∀x y z:D,exS aO K.tT ⟨[x,y,I t,.bp 0 0,.bp 1 0,z,I 0],[.box [I t1,.t (tL l1)],.box [I t2,.t (tL l2)]]⟩=
  some (match (List.range (min l1.length l2.length)).find? (fun p=>decide (nth l1 p≤t∧nth l2 p≤t))with
   | some j=>(.ret,⟨[.und,.und,I t,.bp 0 0,.bp 1 0,B true,I j],[.box [I t1,.t (tL l1)],.box [I t2,.t (tL l2)]]⟩)
   | none=>(.exit 0,⟨[.und,.und,I t,.bp 0 0,.bp 1 0,.und,I (min l1.length l2.length:Nat)],[.box [I t1,.t (tL l1)],.box [I t2,.t (tL l2)]]⟩)):=by
  intro x y z
  refine cF (fun j=>⟨[.und,.und,I t,.bp 0 0,.bp 1 0,.und,I j],[.box [I t1,.t (tL l1)],.box [I t2,.t (tL l2)]]⟩) (min l1.length l2.length) (fun p=>decide (nth l1 p≤t∧nth l2 p≤t)) _ _ rfl ?_ ?_ ?_ (by simp)
  · intro j hj hp
    have hp:¬(nth l1 j≤t∧nth l2 j≤t):=of_decide_eq_false hp
    by_cases c:nth l1 j≤t
    · simp (disch:=omega) only[go_sem,K.gX,↓reduceIte,c]
    · simp (disch:=omega) only[go_sem,K.gX,↓reduceIte,c]
  · intro j hj hp
    have hp:nth l1 j≤t∧nth l2 j≤t:=of_decide_eq_true hp
    refine⟨?_,by simp⟩
    simp (disch:=omega) only[go_sem,K.gX,↓reduceIte]
  · by_cases h1:l1.length≤l2.length
    · have e:min l1.length l2.length=l1.length:=by omega
      rw[e]
      simp (disch:=omega) only[go_sem,K.gX,↓reduceIte]
    · have e:min l1.length l2.length=l2.length:=by omega
      rw[e]
      simp (disch:=omega) only[go_sem,K.gX,↓reduceIte]
 rw[← FE]
 simp (disch:=omega) only[go_sem,K.gU,↓reduceIte,loop]
 cases hf:(List.range (min l1.length l2.length)).find? (fun p=>decide (nth l1 p≤t∧nth l2 p≤t))with
 | some j=>simp (disch:=omega) only[go_sem,↓reduceIte,Option.isSome]
 | none=>simp (disch:=omega) only[go_sem,↓reduceIte,Option.isSome]
def Uv(b:Bel)(person t:Int)(p:Nat):Bool:=(List.range b.worlds.length).any fun i=>decide (0≤person∧person<(nth b.worlds i).whr.length)&&decide ((p:Int)∈mJ (nth (nth b.worlds i).whr person.toNat) t)
def y6(b:Bel)(person t:Int):List Int:=gx 64 (Uv b person t)
def gB(m:aT)(starts:List Int)(t:Int)(j:Nat):List Wh:=(List.range j).map fun i=>(fQ m (nth starts i) t).1
theorem CD(m:aT)(starts:List Int)(t:Int)(j:Nat):gB m starts t (j+1)=gB m starts t j++[(fQ m (nth starts j) t).1]:=by
 unfold gB;rw[List.range_succ,List.map_append];rfl
@[simp] theorem pW (m : aT) (starts : List Int) (t : Int) (j : Nat) : (gB m starts t j).length = j := by simp [gB]
def rB(m:aT)(tags starts:List Int)(t:Int):Bel×Int:=
 if tags.length=starts.length∧1≤tags.length∧tags.length≤12 then
  if eH tags=true then match (List.range tags.length).find? (fun i=> !decide ((fQ m (nth starts i) t).2=0))with
   | some i=>(⟨[]⟩,(fQ m (nth starts i) t).2)
   | none=>(⟨[⟨tags,gB m starts t tags.length⟩]⟩,0)
  else(⟨[]⟩,41)
 else(⟨[]⟩,6)
abbrev stH(m:aT)(tags:List Int)(r:D)(ws:List Wh):aj:=[.box (ah m),.box [r],.arr 1 false 0 ((tags.map (T.int .i64)).map .t),.box [.ref 2 0 tags.length,.ref 5 0 ws.length],.arr 2 false 0 [],.arr 2 false 0 ((ws.map Wh.e).map .t)]
theorem Eo{m:aT}(h:m.ok)(tags starts:List Int)(hl:tags.length≤1000000)(t:Int):
 aO 0 N.dg [.t m.e,.t (tL tags),.t (tL starts),I t] []=some (.tup [.t (rB m tags starts t).1.e,I (rB m tags starts t).2],[]):=by
 refine ax K.o7 rfl ?_
 have ck:=ud h
 have pr:=Cs tags hl
 unfold rB
 by_cases c1:tags.length=starts.length
 · by_cases c2:tags.length<1
   · simp (disch:=omega) only[go_sem,K.dg,↓reduceIte,ck,show ¬(tags.length=starts.length∧1≤tags.length∧tags.length≤12)by omega]
     rfl
   · by_cases c3:12<tags.length
     · simp (disch:=omega) only[go_sem,K.dg,↓reduceIte,ck,show ¬(tags.length=starts.length∧1≤tags.length∧tags.length≤12)by omega]
       rfl
     · have c:tags.length=starts.length∧1≤tags.length∧tags.length≤12:=by omega
       rw[if_pos c]
       clear c
       cases hp:eH tags with
       | false=>
         rw[hp]at pr
         simp (disch:=omega) only[go_sem,K.dg,↓reduceIte,ck,pr,Bool.false_eq_true]
         rfl
       | true=>
         rw[hp]at pr
         have loop:∀a b c d:D,exS aO K.rR ⟨[a,.t (tL tags),.t (tL starts),I t,.bp 0 0,.bp 1 0,b,.bp 3 0,I 0,c,d],stH m tags .nil []⟩=
          some (match (List.range tags.length).find? (fun i=> !decide ((fQ m (nth starts i) t).2=0))with
           | some i=>(.ret,⟨[.und,.t (tL tags),.t (tL starts),I t,.bp 0 0,.bp 1 0,I (fQ m (nth starts i) t).2,.bp 3 0,I i,.bp 6 0,I (fQ m (nth starts i) t).2],stH m tags .nil (gB m starts t i)++[.box [I (fQ m (nth starts i) t).1.time,.t (tL (fQ m (nth starts i) t).1.frm)]]⟩)
           | none=>(.exit 0,⟨[.und,.t (tL tags),.t (tL starts),I t,.bp 0 0,.bp 1 0,.und,.bp 3 0,I tags.length,.und,.und],stH m tags .nil (gB m starts t tags.length)⟩)):=by
          intro a b c d
          refine cF (fun j=>⟨[.und,.t (tL tags),.t (tL starts),I t,.bp 0 0,.bp 1 0,.und,.bp 3 0,I j,.und,.und],stH m tags .nil (gB m starts t j)⟩) tags.length _ _ _ rfl ?_ ?_ ?_ (by simp)
          · intro j hj hp
            have st:=FI h (nth starts j) t
            have ln:=pW m starts t j
            have hp:(fQ m (nth starts j) t).2=0:=by simpa using hp
            rw[CD]
            generalize gB m starts t j=L at*
            generalize fQ m (nth starts j) t=r at*
            obtain⟨⟨time,frm⟩,e⟩:=r
            simp only at st hp ⊢
            subst hp
            simp (disch:=omega) only[go_sem,K.j6,↓reduceIte,stH,st,Nat.reduceAdd,Nat.reduceSub]
            done
          · intro j hj hp
            have st:=FI h (nth starts j) t
            have ln:=pW m starts t j
            have hp:(fQ m (nth starts j) t).2≠0:=by simpa using hp
            generalize gB m starts t j=L at*
            generalize fQ m (nth starts j) t=r at*
            obtain⟨⟨time,frm⟩,e⟩:=r
            simp only at st hp ⊢
            refine⟨?_,by simp⟩
            simp (disch:=omega) only[go_sem,K.j6,↓reduceIte,stH,st,Nat.reduceAdd,Nat.reduceSub]
            done
          · have ln:=pW m starts t tags.length
            generalize gB m starts t tags.length=L at*
            simp (disch:=omega) only[go_sem,K.j6,↓reduceIte]
         simp only[stH,List.map_nil,List.length_nil]at loop
         simp (disch:=omega) only[go_sem,K.dg,↓reduceIte,ck,pr,loop]
         cases hf:(List.range tags.length).find? (fun i=> !decide ((fQ m (nth starts i) t).2=0))with
         | some i=>
           simp (disch:=omega) only[go_sem,↓reduceIte]
           rfl
         | none=>
           have ln:=pW m starts t tags.length
           generalize gB m starts t tags.length=L at*
           simp (disch:=omega) only[go_sem,↓reduceIte]
           rfl
 · simp (disch:=omega) only[go_sem,K.dg,↓reduceIte,ck,show ¬(tags.length=starts.length∧1≤tags.length∧tags.length≤12)by omega]
   rfl
@[go_sem] theorem ZZ : ([] : List D).all kA = true := (rfl)
@[go_sem] theorem Xx (d : D) (r : List D) : (d :: r).all kA = (kA d && r.all kA) := (rfl)
@[go_sem] theorem RZ (cs : List T) : kA (.t (.agg cs)) = false := (rfl)
@[go_sem] theorem Uw (cs : List T) : kA (.t (.sl cs)) = false := (rfl)
@[go_sem] theorem R0 (k : IntKind) (n : Int) : kA (.t (.int k n)) = true := (rfl)
@[go_sem] theorem OQ (b : Bool) : kA (.t (.bool b)) = true := (rfl)
@[go_sem] theorem adQ (l : List Wh) (k : Nat) (a : Int) (b : List Int) : (List.map D.t (List.map Wh.e l)).set k (D.t (T.agg [tI a, tL b])) = List.map D.t (List.map Wh.e (l.set k ⟨a, b⟩)) := by
 rw[List.map_set,List.map_set]
def yZ(m:aT)(tag:Int)(l:List Int)(a b:Int)(x:World):Wh×Int:=xd m (nth x.whr (bM x.tags tag).toNat) l a b
def Du(tag:Int)(x:World)(w:Wh):World:=⟨x.tags,x.whr.set (bM x.tags tag).toNat w⟩
def CE(tag:Int)(r:Wh×Int)(x:World)(out:List World):List World:=
 if r.2=43 then out else out++[if r.2=0 then Du tag x r.1 else x]
def mZ(m:aT)(tag:Int)(l:List Int)(a b:Int)(ws:List World):Nat→List World
 | 0=>[]
 | j+1=>CE tag (yZ m tag l a b (nth ws j)) (nth ws j) (mZ m tag l a b ws j)
theorem JV(tag:Int)(r:Wh×Int)(x:World)(out:List World):(CE tag r x out).length≤out.length+1:=by
 unfold CE;split<;>simp
theorem uu(m:aT)(tag:Int)(l:List Int)(a b:Int)(ws:List World):∀j,(mZ m tag l a b ws j).length≤j
 | 0=>by simp[mZ]
 | j+1=>by
   have:=uu m tag l a b ws j
   have:=JV tag (yZ m tag l a b (nth ws j)) (nth ws j) (mZ m tag l a b ws j)
   simp only[mZ];omega
abbrev vn(m:aT)(ws out:List World):aj:=[.box (ah m),.box [.t (.sl (ws.map World.e))],.box [.nil],.box [.ref 4 0 out.length],.arr 2 false 0 ((out.map World.e).map .t)]
theorem CF{m:aT}(h:m.ok)(ws:List World)(hw:ws.length≤1000000)(tag:Int)(l:List Int)(hp:l.length≤1000000)(a b:Int)(i:Nat)(hi:i<ws.length)(hs:(nth ws i).sz)
 (hb:0≤bM (nth ws i).tags tag) (hb2:bM (nth ws i).tags tag<(nth ws i).whr.length) (out:List World) (ho:out.length≤1000000):
 ((yZ m tag l a b (nth ws i)).2≠6∧(yZ m tag l a b (nth ws i)).2≠8→eY true [0,1,9,10,13,14,15,16,17,18] 5 (exS aO K.dW ⟨[.und,.und,I tag,.t (tL l),I a,I b,.bp 0 0,.bp 1 0,.bp 2 0,.und,.und,.bp 3 0,I i,.und,.und,.und,.und,.und,.und],vn m ws out⟩)=
   some ⟨[.und,.und,I tag,.t (tL l),I a,I b,.bp 0 0,.bp 1 0,.bp 2 0,.und,.und,.bp 3 0,I (i+1),.und,.und,.und,.und,.und,.und],vn m ws (CE tag (yZ m tag l a b (nth ws i)) (nth ws i) out)⟩)∧
 ((yZ m tag l a b (nth ws i)).2=6∨(yZ m tag l a b (nth ws i)).2=8→∃vs H,exS aO K.dW ⟨[.und,.und,I tag,.t (tL l),I a,I b,.bp 0 0,.bp 1 0,.bp 2 0,.und,.und,.bp 3 0,I i,.und,.und,.und,.und,.und,.und],vn m ws out⟩=
   some (.ret,⟨vs,H⟩)∧vs[8]?=some (.bp 2 0)∧vs[9]?=some (I (yZ m tag l a b (nth ws i)).2)∧H[2]?=some (.box [.t (.sl (ws.map World.e))])):=by
 unfold yZ CE Du
 have c1:=mc (nth ws i) hs
 have br:=mP (nth ws i).tags tag (by have:=hs.1;omega)
 have s3:=hs.2.2 _ (aa (l:=(nth ws i).whr) (j:=(bM (nth ws i).tags tag).toNat) (by omega))
 have se:=WU h (nth (nth ws i).whr (bM (nth ws i).tags tag).toNat) s3 l hp a b
 generalize hx:nth ws i=x at*
 obtain⟨tags,whr⟩:=x
 simp only at c1 br s3 se hb hb2 ⊢
 generalize bM tags tag=k at*
 generalize hy:nth whr k.toNat=y at*
 generalize xd m y l a b=r at*
 obtain⟨⟨time,frm⟩,e⟩:=r
 obtain⟨t0,f0⟩:=y
 obtain⟨s1,s2, -⟩:=hs
 simp only at s1 s2 s3 se ⊢
 constructor
 · rintro ⟨n6,n8⟩
   by_cases e43:e=43
   · subst e43
     simp (disch:=omega) only[go_sem,K.dW,↓reduceIte,vn,hx,hy,c1,br,se,Nat.reduceAdd,Nat.reduceSub]
   · by_cases e0:e=0
     · subst e0
       simp (disch:=omega) only[go_sem,K.dW,↓reduceIte,vn,hx,hy,c1,br,se,Nat.reduceAdd,Nat.reduceSub]
     · simp (disch:=omega) only[go_sem,K.dW,↓reduceIte,vn,hx,hy,c1,br,se,Nat.reduceAdd,Nat.reduceSub]
 · rintro (h68 | h68)<;>subst h68
   · simp (disch:=omega) only[go_sem,K.dW,↓reduceIte,vn,hx,hy,c1,br,se,Nat.reduceAdd,Nat.reduceSub]
     exact⟨_,_,rfl,rfl,rfl,rfl⟩
   · simp (disch:=omega) only[go_sem,K.dW,↓reduceIte,vn,hx,hy,c1,br,se,Nat.reduceAdd,Nat.reduceSub]
     exact⟨_,_,rfl,rfl,rfl,rfl⟩
def CG(m:aT)(tag:Int)(l:List Int)(a b:Int)(ws:List World)(j:Nat):Bool:=decide ((yZ m tag l a b (nth ws j)).2=6∨(yZ m tag l a b (nth ws j)).2=8)
def lz(m:aT)(b:Bel)(tag:Int)(l:List Int)(a c:Int):Bel×Int:=
 if ly m b tag≠0 then(b,ly m b tag)else match (List.range b.worlds.length).find? (CG m tag l a c b.worlds)with
  | some i=>(b,(yZ m tag l a c (nth b.worlds i)).2)
  | none=>if(mZ m tag l a c b.worlds b.worlds.length).length=0 then(b,43)else(⟨mZ m tag l a c b.worlds b.worlds.length⟩,0)
theorem CH{m:aT}(h:m.ok)(b:Bel)(hs:b.sz)(tag:Int)(l:List Int)(hp:l.length≤1000000)(a c:Int):
 aO 0 N.fO [.t m.e,.t b.e,I tag,.t (tL l),I a,I c] []=some (.tup [.t (lz m b tag l a c).1.e,I (lz m b tag l a c).2],[]):=by
 refine ax K.sG rfl ?_
 have cb:=vm b hs
 have bo:=F3 h b hs tag
 unfold lz
 by_cases e0:ly m b tag=0
 · have hb:pI m b=true:=by
    unfold ly at e0
    by_cases hb:pI m b=true
    · exact hb
    · rw[if_pos (by simpa using hb)]at e0;omega
   have ht:0≤bM (nth b.worlds 0).tags tag:=by
    unfold ly at e0
    rw[if_neg (by simp[hb])]at e0
    by_cases ht:bM (nth b.worlds 0).tags tag<0
    · rw[if_pos ht]at e0;omega
    · omega
   have bb:∀i,i<b.worlds.length→0≤bM (nth b.worlds i).tags tag∧bM (nth b.worlds i).tags tag<(nth b.worlds i).whr.length:=fun i hi=>by
    obtain⟨-, -, -, -,h5⟩:=eR hb
    obtain⟨w1,w2, -⟩:=gN (h5 i hi)
    have b1:=yz hb ht (i:=i) hi
    have b2:=(vl b1).1
    exact⟨b1,by omega⟩
   rw[e0]at bo
   obtain⟨ws⟩:=b
   obtain⟨s1,s2⟩:=hs
   simp only at s1 s2 bb cb bo ⊢
   have ln:=uu m tag l a c ws
   have loop:=fun x y z u v w p q r=>uk (gc:=true) (dead:=[0,1,9,10,13,14,15,16,17,18]) (c:=K.dW)
    (vs:=[x,y,I tag,.t (tL l),I a,I c,.bp 0 0,.bp 1 0,.bp 2 0,z,u,.bp 3 0,I 0,v,w,p,q,r,.und]) (H:=vn m ws [])
    (fun j=>⟨[.und,.und,I tag,.t (tL l),I a,I c,.bp 0 0,.bp 1 0,.bp 2 0,.und,.und,.bp 3 0,I j,.und,.und,.und,.und,.und,.und],vn m ws (mZ m tag l a c ws j)⟩) ws.length (CG m tag l a c ws)
    (fun j q=>q.1= .ret∧q.2.vs[8]?=some (.bp 2 0)∧q.2.vs[9]?=some (I (yZ m tag l a c (nth ws j)).2)∧q.2.H[2]?=some (.box [.t (.sl (ws.map World.e))]))
    (.exit 0,⟨[.und,.und,I tag,.t (tL l),I a,I c,.bp 0 0,.bp 1 0,.bp 2 0,.und,.und,.bp 3 0,I ws.length,.und,.und,.und,.und,.und,.und],vn m ws (mZ m tag l a c ws ws.length)⟩) rfl
    (fun j hj hq=>by
     have:=ln j
     have hq:¬((yZ m tag l a c (nth ws j)).2=6∨(yZ m tag l a c (nth ws j)).2=8):=by simpa [CG]using hq
     obtain⟨b1,b2⟩:=bb j hj
     exact(CF h ws s1 tag l hp a c j hj (s2 _ (aa hj)) b1 b2 (mZ m tag l a c ws j) (by omega)).1 (by omega))
    (fun j hj hq=>by
     have:=ln j
     have hq:(yZ m tag l a c (nth ws j)).2=6∨(yZ m tag l a c (nth ws j)).2=8:=by simpa [CG]using hq
     obtain⟨b1,b2⟩:=bb j hj
     obtain⟨vs,H,q1,q2⟩:=(CF h ws s1 tag l hp a c j hj (s2 _ (aa hj)) b1 b2 (mZ m tag l a c ws j) (by omega)).2 hq
     exact⟨_,q1,by simp,rfl,q2⟩)
    (by
     have:=ln ws.length
     generalize mZ m tag l a c ws ws.length=L at*
     simp (disch:=omega) only[go_sem,K.dW,↓reduceIte,vn,Nat.reduceAdd,Nat.reduceSub]) (by simp)
   have loop':∀x y z u v w p q r,_∨_:=loop
   clear loop
   rcases loop' (.t m.e) (.t (Bel.e ⟨ws⟩)) (I 0) (I 0) .und .und .und .und .und with⟨e1,e2⟩ | ⟨j,⟨x,vs,H⟩,e1,e2,e3,e4,e5,e6⟩
   · have e2:exS aO K.qt _=_:=e2
     simp only[vn,List.map_nil,List.length_nil]at e2
     have:=ln ws.length
     rw[e1]
     generalize mZ m tag l a c ws ws.length=L at*
     by_cases L0:L.length=0
     · simp (disch:=omega) only[go_sem,K.fO,↓reduceIte,cb,bo,e2,L0,Nat.reduceAdd,Nat.reduceSub,ne_eq,not_true_eq_false]
     · simp (disch:=omega) only[go_sem,K.fO,↓reduceIte,cb,bo,e2,L0,Nat.reduceAdd,Nat.reduceSub,ne_eq,not_true_eq_false]
   · have e2:exS aO K.qt _=_:=e2
     simp only[vn,List.map_nil,List.length_nil]at e2
     rw[e1]
     simp only at e3 e4 e5 e6
     subst e3
     simp (disch:=omega) only[go_sem,K.fO,↓reduceIte,cb,bo,e2,Nat.reduceAdd,Nat.reduceSub,ne_eq,not_true_eq_false,e4,e5,e6,List.take_zero]
 · obtain⟨ws⟩:=b
   simp (disch:=omega) only[go_sem,K.fO,↓reduceIte,cb,bo,e0,ne_eq,not_false_eq_true]
def zU(m:aT)(tag:Int)(l:List Int)(a b bl:Int)(x:World):Wh×Int:=zK m (nth x.whr (bM x.tags tag).toNat) l a b bl
def Ep(tag:Int)(r:Wh×Int)(x:World)(out:List World):List World:=out++[if r.2=0 then Du tag x r.1 else x]
def oJ(m:aT)(tag:Int)(l:List Int)(a b bl:Int)(ws:List World):Nat→List World
 | 0=>[]
 | j+1=>Ep tag (zU m tag l a b bl (nth ws j)) (nth ws j) (oJ m tag l a b bl ws j)
theorem uv(m:aT)(tag:Int)(l:List Int)(a b bl:Int)(ws:List World):∀j,(oJ m tag l a b bl ws j).length=j
 | 0=>rfl
 | j+1=>by
   simp only[oJ,Ep,List.length_append,uv m tag l a b bl ws j,List.length_singleton]
theorem CI{m:aT}(h:m.ok)(ws:List World)(hw:ws.length≤1000000)(tag:Int)(l:List Int)(hp:l.length≤1000000)(a b bl:Int)(i:Nat)(hi:i<ws.length)(hs:(nth ws i).sz)
 (hb:0≤bM (nth ws i).tags tag) (hb2:bM (nth ws i).tags tag<(nth ws i).whr.length) (out:List World) (ho:out.length≤1000000):
 ((zU m tag l a b bl (nth ws i)).2≠6∧(zU m tag l a b bl (nth ws i)).2≠8→eY true [0,1,10,11,14,15,16,17] 5 (exS aO K.cY ⟨[.und,.und,I tag,.t (tL l),I a,I b,I bl,.bp 0 0,.bp 1 0,.bp 2 0,.und,.und,.bp 3 0,I i,.und,.und,.und,.und],vn m ws out⟩)=
   some ⟨[.und,.und,I tag,.t (tL l),I a,I b,I bl,.bp 0 0,.bp 1 0,.bp 2 0,.und,.und,.bp 3 0,I (i+1),.und,.und,.und,.und],vn m ws (Ep tag (zU m tag l a b bl (nth ws i)) (nth ws i) out)⟩)∧
 ((zU m tag l a b bl (nth ws i)).2=6∨(zU m tag l a b bl (nth ws i)).2=8→∃vs H,exS aO K.cY ⟨[.und,.und,I tag,.t (tL l),I a,I b,I bl,.bp 0 0,.bp 1 0,.bp 2 0,.und,.und,.bp 3 0,I i,.und,.und,.und,.und],vn m ws out⟩=
   some (.ret,⟨vs,H⟩)∧vs[9]?=some (.bp 2 0)∧vs[10]?=some (I (zU m tag l a b bl (nth ws i)).2)∧H[2]?=some (.box [.t (.sl (ws.map World.e))])):=by
 unfold zU Ep Du
 have c1:=mc (nth ws i) hs
 have br:=mP (nth ws i).tags tag (by have:=hs.1;omega)
 have s3:=hs.2.2 _ (aa (l:=(nth ws i).whr) (j:=(bM (nth ws i).tags tag).toNat) (by omega))
 have se:=WW h (nth (nth ws i).whr (bM (nth ws i).tags tag).toNat) s3 l hp a b bl
 generalize hx:nth ws i=x at*
 obtain⟨tags,whr⟩:=x
 simp only at c1 br s3 se hb hb2 ⊢
 generalize bM tags tag=k at*
 generalize hy:nth whr k.toNat=y at*
 generalize zK m y l a b bl=r at*
 obtain⟨⟨time,frm⟩,e⟩:=r
 obtain⟨t0,f0⟩:=y
 obtain⟨s1,s2, -⟩:=hs
 simp only at s1 s2 s3 se ⊢
 constructor
 · rintro ⟨n6,n8⟩
   by_cases e0:e=0
   · subst e0
     simp (disch:=omega) only[go_sem,K.cY,↓reduceIte,vn,hx,hy,c1,br,se,Nat.reduceAdd,Nat.reduceSub]
   · simp (disch:=omega) only[go_sem,K.cY,↓reduceIte,vn,hx,hy,c1,br,se,Nat.reduceAdd,Nat.reduceSub]
 · rintro (h68 | h68)<;>subst h68
   · simp (disch:=omega) only[go_sem,K.cY,↓reduceIte,vn,hx,hy,c1,br,se,Nat.reduceAdd,Nat.reduceSub]
     exact⟨_,_,rfl,rfl,rfl,rfl⟩
   · simp (disch:=omega) only[go_sem,K.cY,↓reduceIte,vn,hx,hy,c1,br,se,Nat.reduceAdd,Nat.reduceSub]
     exact⟨_,_,rfl,rfl,rfl,rfl⟩
def CJ(m:aT)(tag:Int)(l:List Int)(a b bl:Int)(ws:List World)(j:Nat):Bool:=decide ((zU m tag l a b bl (nth ws j)).2=6∨(zU m tag l a b bl (nth ws j)).2=8)
def qQ(m:aT)(b:Bel)(tag:Int)(l:List Int)(a c bl:Int):Bel×Int:=
 if ly m b tag≠0 then(b,ly m b tag)else match (List.range b.worlds.length).find? (CJ m tag l a c bl b.worlds)with
  | some i=>(b,(zU m tag l a c bl (nth b.worlds i)).2)
  | none=>(⟨oJ m tag l a c bl b.worlds b.worlds.length⟩,0)
theorem Er{m:aT}{b:Bel}{tag:Int}(e0:ly m b tag=0):pI m b=true∧∀i,i<b.worlds.length→0≤bM (nth b.worlds i).tags tag∧bM (nth b.worlds i).tags tag<(nth b.worlds i).whr.length:=by
 have hb:pI m b=true:=by
  unfold ly at e0
  by_cases hb:pI m b=true
  · exact hb
  · rw[if_pos (by simpa using hb)]at e0;omega
 have ht:0≤bM (nth b.worlds 0).tags tag:=by
  unfold ly at e0
  rw[if_neg (by simp[hb])]at e0
  by_cases ht:bM (nth b.worlds 0).tags tag<0
  · rw[if_pos ht]at e0;omega
  · omega
 refine⟨hb,fun i hi=>?_⟩
 obtain⟨-, -, -, -,h5⟩:=eR hb
 obtain⟨w1,w2, -⟩:=gN (h5 i hi)
 have b1:=yz hb ht (i:=i) hi
 have b2:=(vl b1).1
 exact⟨b1,by omega⟩
theorem JW{m:aT}(h:m.ok)(b:Bel)(hs:b.sz)(tag:Int)(l:List Int)(hp:l.length≤1000000)(a c bl:Int):
 aO 0 N.dF [.t m.e,.t b.e,I tag,.t (tL l),I a,I c,I bl] []=some (.tup [.t (qQ m b tag l a c bl).1.e,I (qQ m b tag l a c bl).2],[]):=by
 refine ax K.nM rfl ?_
 have cb:=vm b hs
 have bo:=F3 h b hs tag
 unfold qQ
 by_cases e0:ly m b tag=0
 · obtain⟨hb,bb⟩:=Er e0
   rw[e0]at bo
   obtain⟨ws⟩:=b
   obtain⟨s1,s2⟩:=hs
   simp only at s1 s2 bb cb bo ⊢
   have ln:=uv m tag l a c bl ws
   have loop:=fun x y u v w p q r=>uk (gc:=true) (dead:=[0,1,10,11,14,15,16,17]) (c:=K.cY)
    (vs:=[x,y,I tag,.t (tL l),I a,I c,I bl,.bp 0 0,.bp 1 0,.bp 2 0,u,v,.bp 3 0,I 0,w,p,q,r]) (H:=vn m ws [])
    (fun j=>⟨[.und,.und,I tag,.t (tL l),I a,I c,I bl,.bp 0 0,.bp 1 0,.bp 2 0,.und,.und,.bp 3 0,I j,.und,.und,.und,.und],vn m ws (oJ m tag l a c bl ws j)⟩) ws.length (CJ m tag l a c bl ws)
    (fun j q=>q.1= .ret∧q.2.vs[9]?=some (.bp 2 0)∧q.2.vs[10]?=some (I (zU m tag l a c bl (nth ws j)).2)∧q.2.H[2]?=some (.box [.t (.sl (ws.map World.e))]))
    (.exit 0,⟨[.und,.und,I tag,.t (tL l),I a,I c,I bl,.bp 0 0,.bp 1 0,.bp 2 0,.und,.und,.bp 3 0,I ws.length,.und,.und,.und,.und],vn m ws (oJ m tag l a c bl ws ws.length)⟩) rfl
    (fun j hj hq=>by
     have:=ln j
     have hq:¬((zU m tag l a c bl (nth ws j)).2=6∨(zU m tag l a c bl (nth ws j)).2=8):=by simpa [CJ]using hq
     obtain⟨b1,b2⟩:=bb j hj
     exact(CI h ws s1 tag l hp a c bl j hj (s2 _ (aa hj)) b1 b2 (oJ m tag l a c bl ws j) (by omega)).1 (by omega))
    (fun j hj hq=>by
     have:=ln j
     have hq:(zU m tag l a c bl (nth ws j)).2=6∨(zU m tag l a c bl (nth ws j)).2=8:=by simpa [CJ]using hq
     obtain⟨b1,b2⟩:=bb j hj
     obtain⟨vs,H,q1,q2⟩:=(CI h ws s1 tag l hp a c bl j hj (s2 _ (aa hj)) b1 b2 (oJ m tag l a c bl ws j) (by omega)).2 hq
     exact⟨_,q1,by simp,rfl,q2⟩)
    (by
     have:=ln ws.length
     generalize oJ m tag l a c bl ws ws.length=L at*
     simp (disch:=omega) only[go_sem,K.cY,↓reduceIte,vn,Nat.reduceAdd,Nat.reduceSub]) (by simp)
   rcases loop (.t m.e) (.t (Bel.e ⟨ws⟩)) (I 0) (I 0) .und .und .und .und with⟨e1,e2⟩ | ⟨j,⟨x,vs,H⟩,e1,e2,e3,e4,e5,e6⟩
   · have e2:exS aO K.mC _=_:=e2
     simp only[vn,List.map_nil,List.length_nil]at e2
     have:=ln ws.length
     rw[e1]
     generalize oJ m tag l a c bl ws ws.length=L at*
     simp (disch:=omega) only[go_sem,K.dF,↓reduceIte,cb,bo,e2,Nat.reduceAdd,Nat.reduceSub,ne_eq,not_true_eq_false]
   · have e2:exS aO K.mC _=_:=e2
     simp only[vn,List.map_nil,List.length_nil]at e2
     rw[e1]
     simp only at e3 e4 e5 e6
     subst e3
     simp (disch:=omega) only[go_sem,K.dF,↓reduceIte,cb,bo,e2,Nat.reduceAdd,Nat.reduceSub,ne_eq,not_true_eq_false,e4,e5,e6,List.take_zero]
 · obtain⟨ws⟩:=b
   simp (disch:=omega) only[go_sem,K.dF,↓reduceIte,cb,bo,e0,ne_eq,not_false_eq_true]
theorem MK{gc:Bool}{dead:List Nat}{c:C}{vs:List D}{H:aj}(P:Nat→St→Prop)(n:Nat)(Q:Ex×St→Prop)(h0:P 0 ⟨jA dead vs,H⟩)
 (hs:∀j st,j<n→P j st→∃st',eY gc dead st.H.length (exS aO c st)=some st'∧P (j+1) st')
 (he:∀st,P n st→∃q,exS aO c st=some q∧q.1≠ .normal∧Q q):∃q,exS aO (.loop gc dead c) ⟨vs,H⟩=some q∧Q q:=by
 have key:∀(k j:Nat) (st:St),j+k=n→P j st→∃q,mz gc dead (exS aO c) st=some q∧Q q:=by
  intro k
  induction k with
  | zero=>
    intro j st hj hp
    obtain⟨q,h1,h2,h3⟩:=he st (by rw[← hj];exact hp)
    exact⟨q,dk h1 h2,h3⟩
  | succ k ih=>
    intro j st hj hp
    obtain⟨st',h1,h2⟩:=hs j st (by omega) hp
    obtain⟨q,h3,h4⟩:=ih (j+1) st' (by omega) h2
    exact⟨q,jO h1 h3,h4⟩
 exact key n 0 _ (by omega) h0
abbrev ints(l:List Int):List D:=(l.map (T.int .i64)).map .t
abbrev whs(l:List Wh):List D:=(l.map Wh.e).map .t
def cJ(out:List World)(x:World):Nat:=match (List.range out.length).find? (fun k=> !qM (nth out k).tags x.tags)with
 | some k=>k
 | none=>out.length
theorem uw(out:List World)(x:World):cJ out x≤out.length:=by
 unfold cJ
 split
 · rename_i k h;exact Nat.le_of_lt (x8 h).1
 · exact Nat.le_refl _
def iS(a b:List Wh):Nat→List Wh
 | 0=>a
 | p+1=>(iS a b p).set p (ie (nth a p) (nth b p)).1
theorem gR(a b:List Wh):∀p,(iS a b p).length=a.length
 | 0=>rfl
 | p+1=>by simp only[iS,List.length_set,gR a b p]
theorem yA(a b:List Wh):∀p q,p≤q→nth (iS a b p) q=nth a q
 | 0,q,_=>rfl
 | p+1,q,h=>by
   have e:nth ((iS a b p).set p (ie (nth a p) (nth b p)).1) q=nth (iS a b p) q:=by
    unfold nth;rw[List.getD_eq_getElem?_getD,List.getElem?_set_ne (by omega),←List.getD_eq_getElem?_getD]
   simp only[iS,e]
   exact yA a b p q (by omega)
def gG(a b:List Wh):List Wh:=iS a b (min a.length b.length)
def gS(out:List World)(x:World):List World:=
 if cJ out x<out.length∧(nth out (cJ out x)).tags=x.tags then out.set (cJ out x) ⟨x.tags,gG (nth out (cJ out x)).whr x.whr⟩
 else out.take (cJ out x)++[x]++out.drop (cJ out x)
def oK(l:List World):Nat→List World
 | 0=>[]
 | j+1=>gS (oK l j) (nth l j)
def nf(l:List World):List World:=oK l l.length
structure Rp(H:aj)(id:Nat)(es:List D)(fa fb:Nat→Nat)(out:List World):Prop where
 arr:H[id]?=some (.arr 2 false 0 es)
 len:es.length=out.length
 el:∀j,j<out.length→es[j]?=some (.agg [.ref (fa j) 0 (nth out j).tags.length,.ref (fb j) 0 (nth out j).whr.length])
 ha:∀j,j<out.length→H[fa j]?=some (.arr 1 false 0 (ints (nth out j).tags))
 hb:∀j,j<out.length→H[fb j]?=some (.arr 2 false 0 (whs (nth out j).whr))
 na:∀j,j<out.length→fa j≠id
 nb:∀j,j<out.length→fb j≠id
 nab:∀i j,i<out.length→j<out.length→fa i≠fb j
 nbb:∀i j,i<out.length→j<out.length→i≠j→fb i≠fb j
def Rep(H:aj)(v:D)(out:List World):Prop:=(v= .nil∧out=[])∨∃id es fa fb,v= .ref id 0 out.length∧0<out.length∧Rp H id es fa fb out
theorem R1(l:List World)(i:Nat)(hi:i<l.length)(out:List World)(ho:out.length≤1000000)(hso:∀x∈out,x.sz)(hsx:(nth l i).sz)(H:aj)(v:D)(hr:Rep H v out)(a b:D):
 exS aO K.pc ⟨[.t (.sl (l.map World.e)),a,v,I i,I 0,b],H⟩=some (.exit 2,⟨[.t (.sl (l.map World.e)),.und,v,I i,I (cJ out (nth l i)),.und],H⟩):=by
 rcases hr with⟨rfl,rfl⟩ | ⟨id,es,fa,fb,rfl,h0,hr⟩
 · have:cJ [] (nth l i)=0:=rfl
   rw[this]
   refine uZ (dk ?_ (by simp))
   simp (disch:=omega) only[go_sem,K.jf,↓reduceIte,Nat.reduceAdd,Nat.reduceSub]
 · have key:exS aO K.pc ⟨[.t (.sl (l.map World.e)),a,.ref id 0 out.length,I i,I 0,b],H⟩=some (match (List.range out.length).find? (fun k=> !qM (nth out k).tags (nth l i).tags)with
    | some k=>(.exit 2,⟨[.t (.sl (l.map World.e)),.und,.ref id 0 out.length,I i,I k,.und],H⟩)
    | none=>(.exit 2,⟨[.t (.sl (l.map World.e)),.und,.ref id 0 out.length,I i,I out.length,.und],H⟩)):=by
    refine cF (fun k=>⟨[.t (.sl (l.map World.e)),.und,.ref id 0 out.length,I i,I k,.und],H⟩) out.length _ _ _ rfl ?_ ?_ ?_ (by simp)
    · intro k hk hp
      have hp:qM (nth out k).tags (nth l i).tags=true:=by simpa using hp
      have s1:=(hso _ (aa hk)).1
      have s2:=hsx.1
      have ls:=Ee (nth out k).tags (nth l i).tags s1 s2
      have e1:=hr.arr
      have e2:=hr.len
      have e3:=hr.el k hk
      have e4:=hr.ha k hk
      generalize nth out k=y at*
      obtain⟨ta,wa⟩:=y
      generalize hx:nth l i=x at*
      obtain⟨tb,wb⟩:=x
      simp only at s1 s2 ls e3 e4 hp
      simp (disch:=omega) only[go_sem,K.jf,↓reduceIte,Nat.reduceAdd,Nat.reduceSub,e1,e2,e3,e4,hx,ls,hp]
      done
    · intro k hk hp
      have hp:qM (nth out k).tags (nth l i).tags=false:=by simpa using hp
      have s1:=(hso _ (aa hk)).1
      have s2:=hsx.1
      have ls:=Ee (nth out k).tags (nth l i).tags s1 s2
      have e1:=hr.arr
      have e2:=hr.len
      have e3:=hr.el k hk
      have e4:=hr.ha k hk
      generalize nth out k=y at*
      obtain⟨ta,wa⟩:=y
      generalize hx:nth l i=x at*
      obtain⟨tb,wb⟩:=x
      simp only at s1 s2 ls e3 e4 hp
      refine⟨?_,by simp⟩
      simp (disch:=omega) only[go_sem,K.jf,↓reduceIte,Nat.reduceAdd,Nat.reduceSub,e1,e2,e3,e4,hx,ls,hp]
      done
    · simp (disch:=omega) only[go_sem,K.jf,↓reduceIte,Nat.reduceAdd,Nat.reduceSub]
   rw[key]
   unfold cJ
   cases (List.range out.length).find? (fun k=> !qM (nth out k).tags (nth l i).tags)<;>rfl
@[go_sem] theorem Z0 (a b : Wh) : (ie a b).1.e = .agg [tI (ie a b).1.time, tL (ie a b).1.frm] := rfl
theorem R2(l:List World)(i:Nat)(hi:i<l.length)(out:List World)(ho:out.length≤1000000)(hso:∀x∈out,x.sz)(hsx:(nth l i).sz)(H:aj)(id:Nat)(es:List D)(fa fb:Nat→Nat)
 (hr:Rp H id es fa fb out) (k:Nat) (hk:k<out.length) (a:D):
 exS aO K.tU ⟨[.t (.sl (l.map World.e)),a,.ref id 0 out.length,I i,I k,I 0],H⟩=
 some (.exit 4,⟨[.t (.sl (l.map World.e)),.und,.ref id 0 out.length,I i,I k,I ((min (nth out k).whr.length (nth l i).whr.length:Nat):Int)],H.set (fb k) (.arr 2 false 0 (whs (gG (nth out k).whr (nth l i).whr)))⟩):=by
 have e1:=hr.arr
 have e2:=hr.len
 have e3:=hr.el k hk
 have e5:=hr.hb k hk
 have e6:=hr.nb k hk
 have e7:=mL e5
 obtain⟨s1,s2,s3⟩:=hso _ (aa hk)
 obtain⟨x1,x2,x3⟩:=hsx
 generalize nth out k=y at*
 obtain⟨ta,wa⟩:=y
 generalize hx:nth l i=x at*
 obtain⟨tb,wb⟩:=x
 simp only at s1 s2 s3 x1 x2 x3 e3 e5 ⊢
 have jl:=gR wa wb
 have q1:∀o,(H.set (fb k) o)[id]?=H[id]?:=fun o=>gz e6
 have q2:∀o,(H.set (fb k) o)[fb k]?=some o:=fun o=>oH e7
 refine dC (fun p=>⟨[.t (.sl (l.map World.e)),.und,.ref id 0 out.length,I i,I k,I p],H.set (fb k) (.arr 2 false 0 (whs (iS wa wb p)))⟩) (min wa.length wb.length) ?_ ?_ ?_ (by simp)
 · show(⟨_,H⟩:St)=⟨_,H.set (fb k) (.arr 2 false 0 (whs wa))⟩
   rw[AB e5];rfl
 · intro p hp
   have jp:=jl p
   have jn:=yA wa wb p p (Nat.le_refl _)
   have jo:=QO (nth wa p) (nth wb p) (s3 _ (aa (by omega)))
   have hj:iS wa wb (p+1)=(iS wa wb p).set p (ie (nth wa p) (nth wb p)).1:=rfl
   rw[hj]
   generalize iS wa wb p=J at*
   generalize hu:nth wb p=u at*
   generalize nth wa p=w at*
   generalize ie w u=r at*
   obtain⟨⟨rt,rf⟩,re⟩:=r
   simp only at jo ⊢
   simp (disch:=omega) only[go_sem,K.kT,↓reduceIte,Nat.reduceAdd,Nat.reduceSub,q1,q2,e1,e2,e3,rv,hx,hu,jn,jo]
 · have jp:=jl (min wa.length wb.length)
   have hj:gG wa wb=iS wa wb (min wa.length wb.length):=rfl
   rw[hj]
   generalize iS wa wb (min wa.length wb.length)=J at*
   by_cases c:wa.length≤wb.length
   · simp (disch:=omega) only[go_sem,K.kT,↓reduceIte,Nat.reduceAdd,Nat.reduceSub,q1,q2,e1,e2,e3,rv,hx,Nat.min_eq_left c]
   · have hm:min wa.length wb.length=wb.length:=by omega
     simp (disch:=omega) only[go_sem,K.kT,↓reduceIte,Nat.reduceAdd,Nat.reduceSub,q1,q2,e1,e2,e3,rv,hx,hm]
theorem wD{sz:Nat}{l:List D}(h:∀e∈l,e.cells.length=sz):cj sz l=true:=by
 cases l with
 | nil=>rfl
 | cons d r=>rw[AP,fk];exact h d List.mem_cons_self
theorem Rp.size{H:aj}{id:Nat}{es:List D}{fa fb:Nat→Nat}{out:List World}(hr:Rp H id es fa fb out):∀e∈es,e.cells.length=2:=by
 intro e he
 obtain⟨j,hj⟩:=List.mem_iff_getElem?.1 he
 have hl:=(List.getElem?_eq_some_iff.1 hj).1
 rw[hr.el j (by rw[← hr.len];exact hl)]at hj
 cases hj;rfl
theorem JX{α:Type}(l:List α)(k:Nat)(hk:k≤l.length)(x:α)(j:Nat):(l.take k++[x]++l.drop k)[j]?=if j<k then l[j]? else if j=k then some x else l[j-1]?:=by
 have hl:(l.take k).length=k:=by rw[List.length_take];omega
 rw[List.append_assoc]
 by_cases h1:j<k
 · rw[if_pos h1,List.getElem?_append_left (by omega),List.getElem?_take_of_lt h1]
 · rw[if_neg h1,List.getElem?_append_right (by omega),hl]
   by_cases h2:j=k
   · rw[if_pos h2,h2,Nat.sub_self];rfl
   · rw[if_neg h2,List.getElem?_append_right (by simp;omega)]
     simp only[List.length_singleton,List.getElem?_drop]
     congr 1;omega
theorem Es{α:Type} [Dat α](l:List α)(k:Nat)(hk:k≤l.length)(x:α)(j:Nat):nth (l.take k++[x]++l.drop k) j=if j<k then nth l j else if j=k then x else nth l (j-1):=by
 unfold nth
 rw[List.getD_eq_getElem?_getD,JX l k hk]
 split
 · rw[List.getD_eq_getElem?_getD]
 · split
   · rfl
   · rw[List.getD_eq_getElem?_getD]
theorem sV{α:Type} [Dat α](l:List α)(k:Nat)(hk:k<l.length)(x:α)(j:Nat):nth (l.set k x) j=if j=k then x else nth l j:=by
 unfold nth
 rw[List.getD_eq_getElem?_getD]
 by_cases h:j=k
 · rw[if_pos h,h,List.getElem?_set_self hk];rfl
 · rw[if_neg h,List.getElem?_set_ne (fun e=>h e.symm),List.getD_eq_getElem?_getD]
theorem Rp.ins{H:aj}{id:Nat}{es:List D}{fa fb:Nat→Nat}{out:List World}(hr:Rp H id es fa fb out){k:Nat}(hk:k≤out.length)(x:World)(o:Obj):
 Rp (H++[.arr 2 false 0 (es.take k++[.agg [.ref (H.length+1) 0 x.tags.length,.ref (H.length+2) 0 x.whr.length]]++es.drop k),.arr 1 false 0 (ints x.tags),.arr 2 false 0 (whs x.whr),o]) H.length
  (es.take k++[.agg [.ref (H.length+1) 0 x.tags.length,.ref (H.length+2) 0 x.whr.length]]++es.drop k)
  (fun j=>if j<k then fa j else if j=k then H.length+1 else fa (j-1)) (fun j=>if j<k then fb j else if j=k then H.length+2 else fb (j-1)) (out.take k++[x]++out.drop k):=by
 have ol:(out.take k++[x]++out.drop k).length=out.length+1:=by
  rw[List.length_append,List.length_append,List.length_take,List.length_drop,List.length_singleton];omega
 have e2:=hr.len
 have ba:∀j,j<out.length→fa j<H.length:=fun j hj=>mL (hr.ha j hj)
 have bb:∀j,j<out.length→fb j<H.length:=fun j hj=>mL (hr.hb j hj)
 refine⟨iQ,?_,?_,?_,?_,?_,?_,?_,?_⟩
 · rw[ol,List.length_append,List.length_append,List.length_take,List.length_drop,List.length_singleton];omega
 · intro j hj
   rw[ol]at hj
   simp only[JX es k (by omega),Es out k hk]
   by_cases h1:j<k
   · simp only[if_pos h1];exact hr.el j (by omega)
   · by_cases h2:j=k
     · simp only[if_neg h1,if_pos h2]
     · simp only[if_neg h1,if_neg h2];exact hr.el (j-1) (by omega)
 · intro j hj
   rw[ol]at hj
   simp only[Es out k hk]
   by_cases h1:j<k
   · simp only[if_pos h1];rw[iy (ba j (by omega))];exact hr.ha j (by omega)
   · by_cases h2:j=k
     · simp only[if_neg h1,if_pos h2];rw[gy];rfl
     · simp only[if_neg h1,if_neg h2];rw[iy (ba (j-1) (by omega))];exact hr.ha (j-1) (by omega)
 · intro j hj
   rw[ol]at hj
   simp only[Es out k hk]
   by_cases h1:j<k
   · simp only[if_pos h1];rw[iy (bb j (by omega))];exact hr.hb j (by omega)
   · by_cases h2:j=k
     · simp only[if_neg h1,if_pos h2];rw[gy];rfl
     · simp only[if_neg h1,if_neg h2];rw[iy (bb (j-1) (by omega))];exact hr.hb (j-1) (by omega)
 · intro j hj
   rw[ol]at hj
   have b1:=ba j
   have b2:=ba (j-1)
   split
   · have:=b1 (by omega);omega
   · split
     · omega
     · have:=b2 (by omega);omega
 · intro j hj
   rw[ol]at hj
   have b1:=bb j
   have b2:=bb (j-1)
   split
   · have:=b1 (by omega);omega
   · split
     · omega
     · have:=b2 (by omega);omega
 · intro i j hi hj
   rw[ol]at hi hj
   have a1:=ba i
   have a2:=ba (i-1)
   have b1:=bb j
   have b2:=bb (j-1)
   by_cases h1:i<k
   · rw[if_pos h1]
     have:=a1 (by omega)
     by_cases h2:j<k
     · rw[if_pos h2];exact hr.nab i j (by omega) (by omega)
     · rw[if_neg h2]
       by_cases h3:j=k
       · rw[if_pos h3];omega
       · rw[if_neg h3];exact hr.nab i (j-1) (by omega) (by omega)
   · rw[if_neg h1]
     by_cases h4:i=k
     · rw[if_pos h4]
       split
       · have:=b1 (by omega);omega
       · split
         · omega
         · have:=b2 (by omega);omega
     · rw[if_neg h4]
       have:=a2 (by omega)
       by_cases h2:j<k
       · rw[if_pos h2];exact hr.nab (i-1) j (by omega) (by omega)
       · rw[if_neg h2]
         by_cases h3:j=k
         · rw[if_pos h3];omega
         · rw[if_neg h3];exact hr.nab (i-1) (j-1) (by omega) (by omega)
 · intro i j hi hj hne
   rw[ol]at hi hj
   have a1:=bb i
   have a2:=bb (i-1)
   have b1:=bb j
   have b2:=bb (j-1)
   by_cases h1:i<k
   · rw[if_pos h1]
     have:=a1 (by omega)
     by_cases h2:j<k
     · rw[if_pos h2];exact hr.nbb i j (by omega) (by omega) hne
     · rw[if_neg h2]
       by_cases h3:j=k
       · rw[if_pos h3];omega
       · rw[if_neg h3];exact hr.nbb i (j-1) (by omega) (by omega) (by omega)
   · rw[if_neg h1]
     by_cases h4:i=k
     · rw[if_pos h4]
       split
       · have:=b1 (by omega);omega
       · split
         · omega
         · have:=b2 (by omega);omega
     · rw[if_neg h4]
       have:=a2 (by omega)
       by_cases h2:j<k
       · rw[if_pos h2];exact hr.nbb (i-1) j (by omega) (by omega) (by omega)
       · rw[if_neg h2]
         by_cases h3:j=k
         · rw[if_pos h3];omega
         · rw[if_neg h3];exact hr.nbb (i-1) (j-1) (by omega) (by omega) (by omega)
theorem Rp.merge{H:aj}{id:Nat}{es:List D}{fa fb:Nat→Nat}{out:List World}(hr:Rp H id es fa fb out){k:Nat}(hk:k<out.length)(x:World)(ht:(nth out k).tags=x.tags)(hw:x.whr.length=(nth out k).whr.length):
 Rp (H.set (fb k) (.arr 2 false 0 (whs x.whr))) id es fa fb (out.set k x):=by
 have ol:(out.set k x).length=out.length:=List.length_set
 have nk:=hr.nb k hk
 have kl:=mL (hr.hb k hk)
 refine⟨by rw[gz nk];exact hr.arr,by rw[ol];exact hr.len,?_,?_,?_,by rw[ol];exact hr.na,by rw[ol];exact hr.nb,by rw[ol];exact hr.nab,by rw[ol];exact hr.nbb⟩
 · intro j hj
   rw[ol]at hj
   rw[hr.el j hj,sV out k hk]
   by_cases h:j=k
   · rw[if_pos h,h,ht,hw]
   · rw[if_neg h]
 · intro j hj
   rw[ol]at hj
   rw[gz (fun e=>hr.nab j k hj hk e.symm),hr.ha j hj,sV out k hk]
   by_cases h:j=k
   · rw[if_pos h,h,ht]
   · rw[if_neg h]
 · intro j hj
   rw[ol]at hj
   rw[sV out k hk]
   by_cases h:j=k
   · rw[if_pos h,h,oH kl]
   · rw[if_neg h,gz (fun e=>hr.nbb j k hj hk h e.symm)];exact hr.hb j hj
theorem Hi(l:List World)(i:Nat)(hi:i<l.length)(hl:l.length≤1000000)(out:List World)(ho:out.length≤999999)(hso:∀x∈out,x.sz)(hsx:(nth l i).sz)(H:aj)(v:D)(hr:Rep H v out):
 ∃v' H',eY false [1,4,5] H.length (exS aO K.dX ⟨[.t (.sl (l.map World.e)),.und,v,I i,.und,.und],H⟩)=some ⟨[.t (.sl (l.map World.e)),.und,v',I (i+1),.und,.und],H'⟩∧Rep H' v' (gS out (nth l i)):=by
 have l2:=R1 l i hi out (by omega) hso hsx H v hr
 have kl:=uw out (nth l i)
 have cw:=mc (nth l i) hsx
 rcases hr with⟨rfl,rfl⟩ | ⟨id,es,fa,fb,rfl,h0,hr⟩
 · have k0:cJ [] (nth l i)=0:=rfl
   rw[k0]at l2
   have t1:gS [] (nth l i)=[nth l i]:=rfl
   rw[t1]
   generalize hx:nth l i=x at*
   obtain⟨tb,wb⟩:=x
   simp only at cw
   have run:eY false [1,4,5] H.length (exS aO K.dX ⟨[.t (.sl (l.map World.e)),.und,.nil,I i,.und,.und],H⟩)=
    some ⟨[.t (.sl (l.map World.e)),.und,.ref H.length 0 1,I (i+1),.und,.und],H++[.arr 2 false 0 [.agg [.ref (H.length+1) 0 tb.length,.ref (H.length+2) 0 wb.length]],.arr 1 false 0 (ints tb),.arr 2 false 0 (whs wb),.arr 2 false 0 [.agg [.ref (H.length+1) 0 tb.length,.ref (H.length+2) 0 wb.length]]]⟩:=by
    simp (disch:=omega) only[go_sem,K.dX,↓reduceIte,Nat.reduceAdd,Nat.reduceSub,l2,hx,cw,iQ,gy,mq,rz,Nat.add_assoc]
   refine⟨_,_,run,.inr ⟨H.length,_,fun _=>H.length+1,fun _=>H.length+2,rfl,by simp,⟨iQ,rfl,?_,?_,?_,?_,?_,?_,?_⟩⟩⟩
   all_goals skip
   · intro j hj;obtain rfl:j=0:=by simpa using hj
     rfl
   · intro j hj;obtain rfl:j=0:=by simpa using hj
     rw[gy];rfl
   · intro j hj;obtain rfl:j=0:=by simpa using hj
     rw[gy];rfl
   · intro j hj;omega
   · intro j hj;omega
   · intro i j hi hj;omega
   · intro i j hi hj hne
     have h1:i=0:=by simpa using hi
     have h2:j=0:=by simpa using hj
     omega
 · have e1:=hr.arr
   have e2:=hr.len
   have e7:=mL e1
   by_cases c:cJ out (nth l i)<out.length∧(nth out (cJ out (nth l i))).tags=(nth l i).tags
   · obtain⟨ck,ct⟩:=c
     have l3:=R2 l i hi out (by omega) hso hsx H id es fa fb hr (cJ out (nth l i)) ck
     have s1:=(hso _ (aa ck)).1
     have sm:=D7 (nth out (cJ out (nth l i))).tags (nth l i).tags (by omega)
     have t1:gS out (nth l i)=out.set (cJ out (nth l i)) ⟨(nth l i).tags,gG (nth out (cJ out (nth l i))).whr (nth l i).whr⟩:=by unfold gS;rw[if_pos ⟨ck,ct⟩]
     rw[t1]
     simp only[ct,decide_true]at sm
     generalize cJ out (nth l i)=k at*
     have e3:=hr.el k ck
     have e4:=hr.ha k ck
     have mg:=hr.merge ck ⟨(nth l i).tags,gG (nth out k).whr (nth l i).whr⟩ ct (gR _ _ _)
     refine⟨.ref id 0 out.length,_,?_,.inr ⟨id,es,fa,fb,by rw[List.length_set],by rw[List.length_set];omega,mg⟩⟩
     generalize nth out k=y at*
     obtain⟨ta,wa⟩:=y
     simp only at ct
     subst ct
     generalize hx:nth l i=x at*
     obtain⟨tb,wb⟩:=x
     simp only at s1 sm e3 e4 cw l3 ⊢
     simp (disch:=omega) only[go_sem,K.dX,↓reduceIte,Nat.reduceAdd,Nat.reduceSub,l2,l3,hx,cw,sm,e1,e2,e3,e4]
   · have t1:gS out (nth l i)=out.take (cJ out (nth l i))++[nth l i]++out.drop (cJ out (nth l i)):=by unfold gS;rw[if_neg c]
     rw[t1]
     generalize cJ out (nth l i)=k at*
     have hs1:cj 2 (es.take k)=true:=wD fun e he=>hr.size e (List.mem_of_mem_take he)
     have hs2:cj 2 (es.drop k)=true:=wD fun e he=>hr.size e (List.mem_of_mem_drop he)
     have hs3:(es.drop k).take (out.length-k)=es.drop k:=List.take_of_length_le (by simp[e2])
     have hs4:(es.take k).length=k:=by rw[List.length_take];omega
     have hs5:(es.drop k).length=out.length-k:=by rw[List.length_drop,e2]
     have hs6:k+(1+(out.length-k))=out.length+1:=by omega
     have s2:=hsx.1
     have run:eY false [1,4,5] H.length (exS aO K.dX ⟨[.t (.sl (l.map World.e)),.und,.ref id 0 out.length,I i,.und,.und],H⟩)=
      some ⟨[.t (.sl (l.map World.e)),.und,.ref H.length 0 (out.length+1),I (i+1),.und,.und],H++[.arr 2 false 0 (es.take k++[.agg [.ref (H.length+1) 0 (nth l i).tags.length,.ref (H.length+2) 0 (nth l i).whr.length]]++es.drop k),.arr 1 false 0 (ints (nth l i).tags),.arr 2 false 0 (whs (nth l i).whr),.arr 2 false 0 [.agg [.ref (H.length+1) 0 (nth l i).tags.length,.ref (H.length+2) 0 (nth l i).whr.length]]]⟩:=by
      by_cases ck:k<out.length
      · have s1:=(hso _ (aa ck)).1
        have sm:=D7 (nth out k).tags (nth l i).tags (by omega)
        have ct:¬(nth out k).tags=(nth l i).tags:=fun h=>c ⟨ck,h⟩
        have e3:=hr.el k ck
        have e4:=hr.ha k ck
        generalize nth out k=y at*
        obtain⟨ta,wa⟩:=y
        generalize hx:nth l i=x at*
        obtain⟨tb,wb⟩:=x
        simp only at s1 s2 sm e3 e4 ct cw
        simp only[ct,decide_false]at sm
        simp (disch:=omega) only[go_sem,K.dX,↓reduceIte,Nat.reduceAdd,Nat.reduceSub,l2,hx,cw,sm,e1,e2,e3,e4,hs1,hs2,hs3,hs4,hs5,hs6,iy,iQ,gy,mq,rz,Nat.add_assoc,Nat.sub_zero]
      · have ek:k=out.length:=by omega
        subst ek
        generalize hx:nth l i=x at*
        obtain⟨tb,wb⟩:=x
        simp only at s2 cw
        simp (disch:=omega) only[go_sem,K.dX,↓reduceIte,Nat.reduceAdd,Nat.reduceSub,l2,hx,cw,e1,e2,hs1,hs2,hs3,hs4,hs5,hs6,iy,iQ,gy,mq,rz,Nat.add_assoc,Nat.sub_zero]
     exact⟨_,_,run,.inr ⟨H.length,_,_,_,by rw[List.length_append,List.length_append,List.length_take,List.length_drop,List.length_singleton,Nat.min_eq_left kl];congr 1;omega,by rw[List.length_append,List.length_append,List.length_singleton];omega,hr.ins kl (nth l i) _⟩⟩
theorem ux(out:List World)(x:World):(gS out x).length≤out.length+1∧out.length≤(gS out x).length∧1≤(gS out x).length:=by
 have kl:=uw out x
 unfold gS
 split
 · rename_i h
   rw[List.length_set];omega
 · rw[List.length_append,List.length_append,List.length_take,List.length_drop,List.length_singleton];omega
theorem CK(l:List World):∀j,(oK l j).length≤j
 | 0=>Nat.le_refl _
 | j+1=>by
   have:=CK l j
   have:=(ux (oK l j) (nth l j)).1
   simp only[oK];omega
theorem JY(a b:Wh):(ie a b).1.frm.length≤a.frm.length:=by
 unfold ie
 split
 · simp only[kW];omega
 · simp
theorem F4(a b:List Wh)(n:Nat)(h:∀w∈a,w.frm.length≤n):∀p,p≤a.length→∀w∈iS a b p,w.frm.length≤n
 | 0,_,w,hw=>h w hw
 | p+1,hp,w,hw=>by
   simp only[iS]at hw
   rcases List.mem_or_eq_of_mem_set hw with hw | rfl
   · exact F4 a b n h p (by omega) w hw
   · exact Nat.le_trans (JY _ _) (h _ (aa (by omega)))
theorem ML{out:List World}{x:World}(ho:∀y∈out,y.sz)(hx:x.sz):∀y∈gS out x,y.sz:=by
 intro y hy
 unfold gS at hy
 split at hy
 · rename_i h
   rcases List.mem_or_eq_of_mem_set hy with hy | rfl
   · exact ho y hy
   · obtain⟨s1,s2,s3⟩:=ho _ (aa h.1)
     refine⟨hx.1,?_,?_⟩
     · show(iS _ _ _).length≤_
       rw[gR];exact s2
     · exact F4 _ _ _ s3 _ (Nat.min_le_left _ _)
 · rcases List.mem_append.1 hy with hy | hy
   · rcases List.mem_append.1 hy with hy | hy
     · exact ho y (List.mem_of_mem_take hy)
     · rw[List.mem_singleton.1 hy];exact hx
   · exact ho y (List.mem_of_mem_drop hy)
theorem F5{l:List World}(hl:∀x∈l,x.sz):∀j,j≤l.length→∀y∈oK l j,y.sz
 | 0,_,y,hy=>by simp[oK]at hy
 | j+1,h,y,hy=>ML (F5 hl j (by omega)) (hl _ (aa (by omega))) y hy
theorem Rp.frz{H:aj}{id:Nat}{es:List D}{fa fb:Nat→Nat}{out:List World}(hr:Rp H id es fa fb out):
 bO (frz H 8) es=some (out.map World.e)∧∀i∈es.flatMap (eW H 8),i≠id:=by
 have hl:=hr.len
 have key:∀(j:Nat) (hj:j<out.length),Go.Ev.frz H 8 (.agg [.ref (fa j) 0 (nth out j).tags.length,.ref (fb j) 0 (nth out j).whr.length])=some (nth out j).e∧
  eW H 8 (.agg [.ref (fa j) 0 (nth out j).tags.length,.ref (fb j) 0 (nth out j).whr.length])=[fa j,fb j]:=by
  intro j hj
  have h1:=hr.ha j hj
  have h2:=hr.hb j hj
  simp (disch:=omega) only[go_sem,h1,h2,ints,whs,↓reduceIte]
 constructor
 · have:∀(es:List D) (ts:List T),es.length=ts.length→(∀(j:Nat) e t,es[j]?=some e→ts[j]?=some t→Go.Ev.frz H 8 e=some t)→bO (Go.Ev.frz H 8) es=some ts:=by
    intro es
    induction es with
    | nil=>intro ts h _;cases ts with
      | nil=>rfl
      | cons=>simp at h
    | cons e es ih=>
      intro ts h hh
      cases ts with
      | nil=>simp at h
      | cons t ts=>
        have h1:=hh 0 e t rfl rfl
        have h2:=ih ts (by simpa using h) fun j e t he ht=>hh (j+1) e t (by simpa using he) (by simpa using ht)
        simp only[bO,h1,Option.bind_some,h2,Option.map_some]
   refine this es _ (by rw[List.length_map,hl]) fun j e t he ht=>?_
   have hj:j<out.length:=by rw[← hl];exact(List.getElem?_eq_some_iff.1 he).1
   rw[hr.el j hj]at he
   rw[cR _ hj]at ht
   cases he;cases ht
   exact(key j hj).1
 · intro i hi
   obtain⟨e,he,hi⟩:=List.mem_flatMap.1 hi
   obtain⟨j,hj⟩:=List.mem_iff_getElem?.1 he
   have hjl:j<out.length:=by rw[← hl];exact(List.getElem?_eq_some_iff.1 hj).1
   rw[hr.el j hjl]at hj
   cases hj
   rw[(key j hjl).2]at hi
   simp only[List.mem_cons,List.not_mem_nil,or_false]at hi
   rcases hi with rfl | rfl
   · exact hr.na j hjl
   · exact hr.nb j hjl
theorem R3(l:List World)(h0:1≤l.length)(hl:l.length≤100000)(hs:∀x∈l,x.sz):
 aO 1 N.gV [.t (.sl (l.map World.e))] []=some (.ref 0 0 (nf l).length,[.arr 2 false 0 (((nf l).map World.e).map .t)]):=by
 refine ax K.qz rfl ?_
 have loop:∀a b c:D,∃q,exS aO K.tV ⟨[.t (.sl (l.map World.e)),a,.nil,I 0,b,c],[]⟩=some q∧∃v H,q=(.exit 0,⟨[.t (.sl (l.map World.e)),.und,v,I l.length,.und,.und],H⟩)∧Rep H v (nf l):=by
  intro a b c
  refine MK (fun j st=>∃v H,st=⟨[.t (.sl (l.map World.e)),.und,v,I j,.und,.und],H⟩∧Rep H v (oK l j)) l.length _ ⟨.nil,[],rfl,.inl ⟨rfl,rfl⟩⟩ ?_ ?_
  · rintro j st hj ⟨v,H,rfl,hr⟩
    have ln:=CK l j
    obtain⟨v',H',h1,h2⟩:=Hi l j hj (by omega) (oK l j) (by omega) (F5 hs j (by omega)) (hs _ (aa hj)) H v hr
    exact⟨_,h1,v',H',rfl,h2⟩
  · rintro st ⟨v,H,rfl,hr⟩
    refine⟨(.exit 0,⟨[.t (.sl (l.map World.e)),.und,v,I l.length,.und,.und],H⟩),?_,by simp,v,H,rfl,hr⟩
    simp (disch:=omega) only[go_sem,K.dX,↓reduceIte,Nat.reduceAdd,Nat.reduceSub]
 obtain⟨q,hq,v,H,rfl,hr⟩:=loop .nil .und .und
 have nz:1≤(nf l).length:=by
  unfold nf
  cases hn:l.length with
  | zero=>omega
  | succ n=>exact(ux _ _).2.2
 rcases hr with⟨rfl,he⟩ | ⟨id,es,fa,fb,rfl,h0,hr⟩
 · rw[he]at nz;simp at nz
 · obtain⟨f1,f2⟩:=hr.frz
   have fin:=Ea H id 2 (nf l).length es _ hr.arr hr.len.symm f1 f2
   simp (disch:=omega) only[go_sem,K.gV,↓reduceIte,Nat.reduceAdd,Nat.reduceSub,hq,fin]
@[go_sem] theorem OR {α β γ : Type} [Dat α] (f : β → γ) (g : α → β) {l : List α} {i j : Nat} {x : α} (h : j < l.length) : (((l.set i x).map g).map f)[j]? = some (f (g (nth (l.set i x) j))) := AE f g (by rw [List.length_set]; exact h)
def Hj(l:List Int)(i j:Nat):List Int:=(l.set i (nth l j)).set j (nth l i)
def sW(i j:Nat)(t:Int)(x:World):World:=⟨Hj x.tags i j,(x.whr.set i (lU (nth x.whr i) t).1).set j (lU (nth x.whr j) t).1⟩
def yB(i j:Nat)(t:Int)(x:World)(out:List World):List World:=if MJ (nth x.whr i) (nth x.whr j) t=true then out++[sW i j t x]else out
def iz(i j:Nat)(t:Int)(ws:List World):Nat→List World
 | 0=>ws
 | k+1=>yB i j t (nth ws k) (iz i j t ws k)
def m0(m:aT)(b:Bel)(i j t:Int):Bel×Int:=
 if pI m b=false then(b,6)else if i<0∨((nth b.worlds 0).tags.length:Int)≤i∨j<0∨((nth b.worlds 0).tags.length:Int)≤j∨i=j then(b,19)
 else if ¬inT t then(b,8)else if 24<(nf (iz i.toNat j.toNat t b.worlds b.worlds.length)).length then(b,44)else(⟨nf (iz i.toNat j.toNat t b.worlds b.worlds.length)⟩,0)
theorem JZ(i j:Nat)(t:Int)(x:World)(out:List World):out.length≤(yB i j t x out).length∧(yB i j t x out).length≤out.length+1:=by
 unfold yB;split<;>(try rw[List.length_append,List.length_singleton])<;>omega
theorem rC(i j:Nat)(t:Int)(ws:List World):∀k,ws.length≤(iz i j t ws k).length∧(iz i j t ws k).length≤ws.length+k
 | 0=>⟨Nat.le_refl _,Nat.le_refl _⟩
 | k+1=>by
   have h1:=rC i j t ws k
   have h2:=JZ i j t (nth ws k) (iz i j t ws k)
   simp only[iz];omega
abbrev exH(m:aT)(ws out:List World):aj:=[.box (ah m),.box [.t (.sl (ws.map World.e))],.box [.nil],.arr 2 false 0 ((out.map World.e).map .t)]
theorem Hk(m:aT)(ws:List World)(hw:ws.length≤100000)(i j:Nat)(hij:i≠j)(t:Int)(k:Nat)(hk:k<ws.length)(hs:(nth ws k).sz)
 (i1:i<(nth ws k).tags.length) (j1:j<(nth ws k).tags.length) (hl:(nth ws k).whr.length=(nth ws k).tags.length) (out:List World) (ho:out.length≤1000000):
 eY true [0,1,5,8,9,12] 4 (exS aO K.fP ⟨[.und,.und,I i,I j,I t,.und,.bp 1 0,.bp 2 0,.und,.und,.ref 3 0 out.length,I k,.und],exH m ws out⟩)=
  some ⟨[.und,.und,I i,I j,I t,.und,.bp 1 0,.bp 2 0,.und,.und,.ref 3 0 (yB i j t (nth ws k) out).length,I (k+1),.und],exH m ws (yB i j t (nth ws k) out)⟩:=by
 have c1:=mc (nth ws k) hs
 have mt:=RY (nth (nth ws k).whr i) (nth (nth ws k).whr j) t (hs.2.2 _ (aa (by omega)))
 have r1:=FJ (nth (nth ws k).whr i) t (hs.2.2 _ (aa (by omega)))
 have r2:=FJ (nth (nth ws k).whr j) t (hs.2.2 _ (aa (by omega)))
 unfold yB sW Hj
 have n1:∀w,nth ((nth ws k).whr.set i w) j=nth (nth ws k).whr j:=fun w=>by rw[sV _ _ (by omega),if_neg (fun e=>hij e.symm)]
 generalize hx:nth ws k=x at*
 obtain⟨tags,whr⟩:=x
 obtain⟨s1,s2,s3⟩:=hs
 simp only at*
 generalize hwi:nth whr i=wi at*
 generalize hwj:nth whr j=wj at*
 generalize lU wi t=ri at*
 obtain⟨⟨t1,f1⟩,e1⟩:=ri
 generalize lU wj t=rj at*
 obtain⟨⟨t2,f2⟩,e2⟩:=rj
 obtain⟨ti,fi⟩:=wi
 obtain⟨tj,fj⟩:=wj
 simp only at*
 cases hm:MJ ⟨ti,fi⟩ ⟨tj,fj⟩ t with
 | true=>
   rw[hm]at mt
   simp (disch:=omega) only[go_sem,K.fP,↓reduceIte,exH,hx,hwi,hwj,n1,c1,mt,r1,r2,Nat.reduceAdd,Nat.reduceSub]
 | false=>
   rw[hm]at mt
   simp (disch:=omega) only[go_sem,K.fP,↓reduceIte,exH,hx,hwi,hwj,n1,c1,mt,r1,r2,Nat.reduceAdd,Nat.reduceSub,Bool.false_eq_true]
theorem rD(w:Wh)(t:Int):(lU w t).1.frm=w.frm:=by unfold lU;split<;>rfl
theorem MM{i j:Nat}{t:Int}{x:World}(h:x.sz)(hi:i<x.whr.length)(hj:j<x.whr.length):(sW i j t x).sz:=by
 obtain⟨s1,s2,s3⟩:=h
 refine⟨by simpa [sW,Hj]using s1,by simpa [sW]using s2,fun w hw=>?_⟩
 simp only[sW]at hw
 rcases List.mem_or_eq_of_mem_set hw with hw | rfl
 · rcases List.mem_or_eq_of_mem_set hw with hw | rfl
   · exact s3 w hw
   · rw[rD];exact s3 _ (aa hi)
 · rw[rD];exact s3 _ (aa hj)
theorem yC{ws:List World}(h:∀x∈ws,x.sz){i j:Nat}{t:Int}(hi:∀k,k<ws.length→i<(nth ws k).whr.length)(hj:∀k,k<ws.length→j<(nth ws k).whr.length):∀k,k≤ws.length→∀x∈iz i j t ws k,x.sz
 | 0,_,x,hx=>h x hx
 | k+1,hk,x,hx=>by
   simp only[iz,yB]at hx
   split at hx
   · rcases List.mem_append.1 hx with hx | hx
     · exact yC h hi hj k (by omega) x hx
     · rw[List.mem_singleton.1 hx];exact MM (h _ (aa (by omega))) (hi k (by omega)) (hj k (by omega))
   · exact yC h hi hj k (by omega) x hx
theorem Hl{m:aT}(h:m.ok)(b:Bel)(hs:b.sz)(i j t:Int):
 aO 0 N.bq [.t m.e,.t b.e,I i,I j,I t] []=some (.tup [.t (m0 m b i j t).1.e,I (m0 m b i j t).2],[]):=by
 refine ax K.lI rfl ?_
 have cb:=vm b hs
 have cb1:=Ef b hs
 have vb:=Eg h b hs
 unfold m0
 cases hb:pI m b with
 | false=>
   rw[hb]at vb
   obtain⟨ws⟩:=b
   simp (disch:=omega) only[go_sem,K.bq,↓reduceIte,cb,vb,Nat.reduceAdd,Nat.reduceSub]
 | true=>
   rw[hb]at vb
   obtain⟨w1,w2,f1,f2,w5⟩:=eR hb
   obtain⟨ws⟩:=b
   obtain⟨s1,s2⟩:=hs
   simp only at s1 s2 w1 w2 w5 f1 f2 cb cb1 vb ⊢
   have g0:(ws.map World.e)[0]?=some (nth ws 0).e:=cR _ (by omega)
   have wl:∀k,k<ws.length→(nth ws k).tags.length=(nth ws 0).tags.length∧(nth ws k).whr.length=(nth ws 0).tags.length:=fun k hk=>by
    obtain⟨q1,q2, -⟩:=gN (w5 k hk)
    exact⟨q1,q2⟩
   generalize hx:nth ws 0=x at*
   obtain⟨first,whr⟩:=x
   simp only at f1 f2 wl g0 ⊢
   rw[if_neg (by simp)]
   by_cases c1:i<0
   · rw[if_pos (by omega)]
     simp (disch:=omega) only[go_sem,K.bq,↓reduceIte,cb,vb,hx,g0,c1,Nat.reduceAdd,Nat.reduceSub]
   · by_cases c2:(first.length:Int)≤i
     · rw[if_pos (by omega)]
       simp (disch:=omega) only[go_sem,K.bq,↓reduceIte,cb,vb,hx,g0,c1,c2,Nat.reduceAdd,Nat.reduceSub]
     · by_cases c3:j<0
       · rw[if_pos (by omega)]
         simp (disch:=omega) only[go_sem,K.bq,↓reduceIte,cb,vb,hx,g0,c1,c2,c3,Nat.reduceAdd,Nat.reduceSub]
       · by_cases c4:(first.length:Int)≤j
         · rw[if_pos (by omega)]
           simp (disch:=omega) only[go_sem,K.bq,↓reduceIte,cb,vb,hx,g0,c1,c2,c3,c4,Nat.reduceAdd,Nat.reduceSub]
         · by_cases c5:i=j
           · rw[if_pos (by omega)]
             simp (disch:=omega) only[go_sem,K.bq,↓reduceIte,cb,vb,hx,g0,c1,c2,c3,c4,c5,Nat.reduceAdd,Nat.reduceSub]
           · rw[if_neg (by omega)]
             by_cases ct:inT t
             · have ct':=ct
               unfold inT at ct'
               rw[if_neg (fun h=>h ct)]
               obtain⟨i',rfl⟩:=Int.eq_ofNat_of_zero_le (show 0≤i by omega)
               obtain⟨j',rfl⟩:=Int.eq_ofNat_of_zero_le (show 0≤j by omega)
               simp only[Int.toNat_natCast]
               have ln:=rC i' j' t ws
               have loop:∀a b c d e f:D,exS aO K.oC ⟨[a,b,I i',I j',I t,c,.bp 1 0,.bp 2 0,d,e,.ref 3 0 ws.length,I 0,f],exH m ws ws⟩=
                some (.exit 0,⟨[.und,.und,I i',I j',I t,.und,.bp 1 0,.bp 2 0,.und,.und,.ref 3 0 (iz i' j' t ws ws.length).length,I ws.length,.und],exH m ws (iz i' j' t ws ws.length)⟩):=by
                intro a b c d e f
                refine dC (fun k=>⟨[.und,.und,I i',I j',I t,.und,.bp 1 0,.bp 2 0,.und,.und,.ref 3 0 (iz i' j' t ws k).length,I k,.und],exH m ws (iz i' j' t ws k)⟩) ws.length rfl ?_ ?_ (by simp)
                · intro k hk
                  obtain⟨q1,q2⟩:=wl k hk
                  have:=ln k
                  exact Hk m ws (by omega) i' j' (by omega) t k hk (s2 _ (aa hk)) (by omega) (by omega) (by omega) _ (by omega)
                · have:=ln ws.length
                  generalize iz i' j' t ws ws.length=L at*
                  simp (disch:=omega) only[go_sem,K.fP,↓reduceIte,exH,Nat.reduceAdd,Nat.reduceSub]
               have ln:=ln ws.length
               have sz:=yC (t:=t) s2 (i:=i') (j:=j') (fun k hk=>by obtain⟨q1,q2⟩:=wl k hk;omega) (fun k hk=>by obtain⟨q1,q2⟩:=wl k hk;omega) ws.length (Nat.le_refl _)
               have ty:=R3 (iz i' j' t ws ws.length) (by omega) (by omega) sz
               generalize iz i' j' t ws ws.length=L at*
               generalize nf L=Z at*
               simp only[exH]at loop
               by_cases c6:24<Z.length
               · simp (disch:=omega) only[go_sem,K.bq,↓reduceIte,cb,cb1,vb,hx,g0,c1,c2,c3,c4,c5,c6,loop,ty,Nat.reduceAdd,Nat.reduceSub]
               · simp (disch:=omega) only[go_sem,K.bq,↓reduceIte,cb,cb1,vb,hx,g0,c1,c2,c3,c4,c5,c6,loop,ty,Nat.reduceAdd,Nat.reduceSub]
             · rw[if_pos ct]
               unfold inT at ct
               by_cases c6:t<0
               · simp (disch:=omega) only[go_sem,K.bq,↓reduceIte,cb,vb,hx,g0,c1,c2,c3,c4,c5,c6,Nat.reduceAdd,Nat.reduceSub]
               · simp (disch:=omega) only[go_sem,K.bq,↓reduceIte,cb,vb,hx,g0,c1,c2,c3,c4,c5,c6,Nat.reduceAdd,Nat.reduceSub]
def pX:Nat→List Int
 | 0=>[]
 | k+1=>pX k++[3+(k:Int)*2]
def aC.lA(d:aC)(n:Int):Nat→List Int×aC
 | 0=>([],d)
 | k+1=>((d.lA n k).1++[((d.lA n k).2.next n).1],((d.lA n k).2.next n).2)
theorem kn:∀k,(pX k).length=k
 | 0=>rfl
 | k+1=>by simp[pX,kn k]
theorem aC.jS(d:aC)(n:Int):∀k,(d.lA n k).1.length=k
 | 0=>rfl
 | k+1=>by simp[aC.lA,d.jS n k]
theorem aC.nE{d:aC}(h:d.dY)(n:Int):∀k,(d.lA n k).2.dY
 | 0=>h
 | k+1=>aC.aV (aC.nE h n k) n
structure BSt where
 b:Bel
 t:Int
 d:aC
def aC.ko(m:aT)(n:Int)(s:BSt):BSt:=
 let a:=s.d.next 60
 let c:=a.2.next 3
 if c.1=0 then
  let i:=c.2.next n
  let j:=i.2.next n
  let r:=m0 m s.b i.1 j.1 (s.t+a.1)
  ⟨if r.2=0 then r.1 else s.b,s.t+a.1,j.2⟩
 else if c.1=1 then
  let g:=c.2.next n
  let l:=g.2.lk m.places.length
  let e:=l.2.next 9
  let r:=lz m s.b (3+2*g.1) l.1 (s.t+a.1) (s.t+a.1+e.1)
  ⟨if r.2=0 then r.1 else s.b,s.t+a.1,e.2⟩
 else
  let g:=c.2.next n
  let l:=g.2.lk m.places.length
  let e:=l.2.next 40
  let r:=qQ m s.b (3+2*g.1) l.1 (s.t+a.1) (s.t+a.1+50) e.1
  ⟨if r.2=0 then r.1 else s.b,s.t+a.1,e.2⟩
def aC.vq(m:aT)(n:Int)(s:BSt):Nat→BSt
 | 0=>s
 | k+1=>aC.ko m n (aC.vq m n s k)
def aC.om(d:aC):Nat:=(1+(d.next 3).1).toNat
def aC.lV(d:aC)(m:aT):List Int×aC:=(d.next 3).2.lA m.places.length d.om
def aC.Ia(d:aC)(m:aT):BSt:=⟨(rB m (pX d.om) (d.lV m).1 ((d.lV m).2.next 100).1).1,100,(((d.lV m).2.next 100).2.next 5).2⟩
def aC.J0(d:aC)(m:aT):Nat:=(((d.lV m).2.next 100).2.next 5).1.toNat
def aC.Z1(d:aC)(m:aT):BSt:=aC.vq m d.om (d.Ia m) (d.J0 m)
def aC.qR(d:aC)(m:aT):Bel×aC:=((d.Z1 m).b,(d.Z1 m).d)
structure WOk(m:aT)(N:Nat)(x:World):Prop where
 tg:x.tags.length=N
 wh:x.whr.length=N
 fr:∀w∈x.whr,w.frm.length=m.places.length
 ti:∀w∈x.whr,inT w.time
structure BOk(m:aT)(N:Nat)(b:Bel):Prop where
 w1:1≤b.worlds.length
 w2:b.worlds.length≤24
 n1:1≤N
 n2:N≤12
 ws:∀x∈b.worlds,WOk m N x
theorem WOk.sz{m:aT}{N:Nat}{x:World}(h:WOk m N x)(hm:m.ok)(hn:N≤12):x.sz:=by
 have np:=hm.np
 obtain⟨t1,t2,t3, -⟩:=h
 exact⟨by omega,by omega,fun w hw=>by rw[t3 w hw];omega⟩
theorem BOk.sz{m:aT}{N:Nat}{b:Bel}(h:BOk m N b)(hm:m.ok):b.sz:=
 ⟨by have:=h.w2;omega,fun x hx=>(h.ws x hx).sz hm h.n2⟩
theorem AU{m:aT}{n:Int}{s:BSt}(h:s.d.dY):(aC.ko m n s).d.dY:=by
 unfold aC.ko
 simp only
 have l1:=aC.aV h 60
 generalize s.d.next 60=a at*
 obtain⟨a1,d1⟩:=a
 simp only at l1 ⊢
 have l2:=aC.aV l1 3
 generalize d1.next 3=c at*
 obtain⟨c1,d2⟩:=c
 simp only at l2 ⊢
 split
 · exact aC.aV (aC.aV l2 n) n
 · split
   · exact aC.aV (aC.kH (aC.aV l2 n) _) 9
   · exact aC.aV (aC.kH (aC.aV l2 n) _) 40
abbrev blH(m:aT)(p1 p2:Bool)(tags starts:List Int)(s:BSt):aj:=[s.d.obj,.box (ah m),.box [.nil],.arr 1 p1 0 (ints tags),.arr 1 p2 0 (ints starts),.box [.t (.sl (s.b.worlds.map World.e))]]
theorem J1{m:aT}(hm:m.ok)(n:Int)(n1:1≤n)(n2:n≤12)(tags starts:List Int)(s:BSt)(hd:s.d.dY)(hb:s.b.sz)(ht:0≤s.t)(ht2:s.t≤1000000)(k:Nat)(hk:k≤100)(p1 p2:Bool):
 eY true [1,5,6,7,11,12,13,14,15,16,17] 6 (exS aO K.bA ⟨[.bp 0 0,.und,.bp 1 0,.bp 2 0,I n,.und,.und,.und,.bp 5 0,I s.t,I (k+1),.und,.und,.und,.und,.und,.und,.und],blH m p1 p2 tags starts s⟩)=
 some ⟨[.bp 0 0,.und,.bp 1 0,.bp 2 0,I n,.und,.und,.und,.bp 5 0,I (aC.ko m n s).t,I k,.und,.und,.und,.und,.und,.und,.und],blH m p1 p2 tags starts (aC.ko m n s)⟩:=by
 obtain⟨b,t,d⟩:=s
 simp only at hd hb ht ht2
 unfold aC.ko
 simp only
 have np:=hm.np
 have h1:=fV d 60 (by omega) hd
 have l1:=aC.aV hd 60
 have a0:=d.dG 60
 have a9:=d.dH (n:=60) (by omega)
 generalize d.next 60=a at*
 obtain⟨x1,d1⟩:=a
 simp only at h1 l1 a0 a9 ⊢
 have h2:=fV d1 3 (by omega) l1
 have l2:=aC.aV l1 3
 have c0:=d1.dG 3
 have c9:=d1.dH (n:=3) (by omega)
 generalize d1.next 3=c at*
 obtain⟨x2,d2⟩:=c
 simp only at h2 l2 c0 c9 ⊢
 have h3:=fV d2 n (by omega) l2
 have l3:=aC.aV l2 n
 have g0:=d2.dG n
 have g9:=d2.dH (n:=n) n1
 generalize d2.next n=g at*
 obtain⟨x3,d3⟩:=g
 simp only at h3 l3 g0 g9 ⊢
 by_cases e0:x2=0
 · simp only[if_pos e0]
   have h4:=fV d3 n (by omega) l3
   generalize d3.next n=g at*
   obtain⟨x4,d4⟩:=g
   simp only at h4 ⊢
   have ex:=Hl hm b hb x3 x4 (t+x1)
   generalize m0 m b x3 x4 (t+x1)=r at*
   obtain⟨⟨ws'⟩,er⟩:=r
   obtain⟨ws⟩:=b
   simp only at ex ⊢
   subst e0
   by_cases e:er=0
   · simp (disch:=omega) only[go_sem,K.bA,↓reduceIte,blH,h1,h2,h3,h4,ex,e,Nat.reduceAdd,Nat.reduceSub]
   · simp (disch:=omega) only[go_sem,K.bA,↓reduceIte,blH,h1,h2,h3,h4,ex,e,Nat.reduceAdd,Nat.reduceSub]
 · simp only[if_neg e0]
   have h4:=Jb d3 m.places.length (by omega) l3
   have l4:=aC.kH l3 m.places.length
   have ln:=d3.ua m.places.length
   generalize d3.lk m.places.length=q at*
   obtain⟨l,d4⟩:=q
   simp only at h4 l4 ln ⊢
   by_cases e1:x2=1
   · simp only[if_pos e1]
     have h5:=fV d4 9 (by omega) l4
     have f0:=d4.dG 9
     have f9:=d4.dH (n:=9) (by omega)
     generalize d4.next 9=g at*
     obtain⟨x5,d5⟩:=g
     simp only at h5 f0 f9 ⊢
     have ex:=CH hm b hb (3+2*x3) l (by omega) (t+x1) (t+x1+x5)
     generalize lz m b (3+2*x3) l (t+x1) (t+x1+x5)=r at*
     obtain⟨⟨ws'⟩,er⟩:=r
     obtain⟨ws⟩:=b
     simp only at ex ⊢
     subst e1
     by_cases e:er=0
     · simp (disch:=omega) only[go_sem,K.bA,↓reduceIte,blH,h1,h2,h3,h4,h5,ex,e,Nat.reduceAdd,Nat.reduceSub]
     · simp (disch:=omega) only[go_sem,K.bA,↓reduceIte,blH,h1,h2,h3,h4,h5,ex,e,Nat.reduceAdd,Nat.reduceSub]
   · simp only[if_neg e1]
     have h5:=fV d4 40 (by omega) l4
     have f0:=d4.dG 40
     have f9:=d4.dH (n:=40) (by omega)
     generalize d4.next 40=g at*
     obtain⟨x5,d5⟩:=g
     simp only at h5 f0 f9 ⊢
     have ex:=JW hm b hb (3+2*x3) l (by omega) (t+x1) (t+x1+50) x5
     generalize qQ m b (3+2*x3) l (t+x1) (t+x1+50) x5=r at*
     obtain⟨⟨ws'⟩,er⟩:=r
     obtain⟨ws⟩:=b
     simp only at ex ⊢
     by_cases e:er=0
     · simp (disch:=omega) only[go_sem,K.bA,↓reduceIte,blH,h1,h2,h3,h4,h5,ex,e,e0,e1,Nat.reduceAdd,Nat.reduceSub]
     · simp (disch:=omega) only[go_sem,K.bA,↓reduceIte,blH,h1,h2,h3,h4,h5,ex,e,e0,e1,Nat.reduceAdd,Nat.reduceSub]
theorem CL{m:aT}(hm:m.ok){p t:Int}(p0:0≤p)(p1:p<m.places.length)(ht:inT t):(fQ m p t).2=0∧(fQ m p t).1.frm.length=m.places.length:=by
 unfold fQ
 rw[if_neg (by omega),if_pos ht]
 refine⟨rfl,?_⟩
 exact kI hm t ht none (fun l h=>by cases h) (by simp) (ve (vf _) ht.1 (by have:=ht.2;omega))
theorem J2{m:aT}{p t:Int}(ht:inT t):inT (fQ m p t).1.time:=by
 unfold fQ
 split
 · unfold inT;simp
 · exact ht
theorem R4{m:aT}(w:Wh)(l:List Int)(a b:Int)(hw:inT w.time):inT (xd m w l a b).1.time:=by
 unfold xd
 split
 · exact hw
 · rename_i h
   have h0:ke m w l a b=0:=by simpa using h
   obtain⟨v1,v2,v3,v4,v5,v6⟩:=kV h0
   split
   · exact hw
   · split
     · exact v5
     · exact hw
theorem R5{m:aT}(w:Wh)(l:List Int)(a b bl:Int)(hw:inT w.time):inT (zK m w l a b bl).1.time:=by
 unfold zK
 split
 · exact hw
 · rename_i h
   have h0:ke m w l a b=0:=by simpa using h
   obtain⟨v1,v2,v3,v4,v5,v6⟩:=kV h0
   split
   · exact hw
   · split
     · exact hw
     · split
       · exact hw
       · exact v5
theorem MN{a b:Wh}(ha:inT a.time)(hb:inT b.time):inT (ie a b).1.time:=by
 unfold ie
 split
 · unfold inT at *;simp only;omega
 · unfold inT;simp
theorem CM{w:Wh}{t:Int}(h:inT w.time):inT (lU w t).1.time:=by
 unfold lU
 split
 · exact h
 · unfold inT at *;simp only;omega
theorem F6(a b:List Wh)(ha:∀w∈a,inT w.time)(hb:∀w∈b,inT w.time):∀p,p≤a.length→p≤b.length→∀w∈iS a b p,inT w.time
 | 0,_,_,w,hw=>ha w hw
 | p+1,h1,h2,w,hw=>by
   simp only[iS]at hw
   rcases List.mem_or_eq_of_mem_set hw with hw | rfl
   · exact F6 a b ha hb p (by omega) (by omega) w hw
   · exact MN (ha _ (aa (by omega))) (hb _ (aa (by omega)))
theorem MO{m:aT}(hm:m.ok)(w:Wh)(l:List Int)(a b:Int)(hw:w.frm.length=m.places.length):(xd m w l a b).1.frm.length=m.places.length:=by
 unfold xd
 split
 · exact hw
 · rename_i h
   have h0:ke m w l a b=0:=by simpa using h
   obtain⟨v1,v2,v3,v4,v5,v6⟩:=kV h0
   obtain⟨w1,w2,w3,w4⟩:=bL v1
   have hb:bnd w.frm:=fun x hx=>iH (w3 x hx)
   split
   · exact hw
   · split
     · refine kI hm a v4 none (fun l h=>by cases h) (kU _ _ _ _ _) (AL hb _ _ ?_ _ (Nat.le_refl _))
       intro p hp
       obtain⟨j,hj⟩:=List.mem_iff_getElem?.1 hp
       have hjl:=(List.getElem?_eq_some_iff.1 hj).1
       obtain⟨q1,q2, -⟩:=pE v3 hjl
       rw[bB hj]at q1 q2
       omega
     · exact hw
theorem MP{m:aT}(hm:m.ok)(w:Wh)(l:List Int)(a b bl:Int)(hw:w.frm.length=m.places.length):(zK m w l a b bl).1.frm.length=m.places.length:=by
 unfold zK
 split
 · exact hw
 · rename_i h
   have h0:ke m w l a b=0:=by simpa using h
   obtain⟨v1,v2,v3,v4,v5,v6⟩:=kV h0
   obtain⟨w1,w2,w3,w4⟩:=bL v1
   have hb:bnd w.frm:=fun x hx=>iH (w3 x hx)
   split
   · exact hw
   · split
     · exact hw
     · split
       · exact hw
       · rename_i h1 h2 h3
         have hlen:=AK v3
         have np:=hm.np
         have h1:inT bl:=by simpa using h1
         unfold inT at v4 v5 w2 h1
         have t1:inT (b-bl):=by unfold inT;omega
         have hi:∀s,some l=some s→s≠[]∧s.length≤64:=by
          intro s hs;cases hs;exact⟨v2,by omega⟩
         have ln:=uf w.frm l l.length
         have lb:=AM hb l l.length
         exact kI hm b v5 none (fun l h=>by cases h) (kI hm _ t1 _ hi (by omega) lb) (zJ hm _ t1 _ hi (by omega) lb)
theorem J3{m:aT}{N:Nat}{tag:Int}{x:World}{w:Wh}(hx:WOk m N x)(hw:w.frm.length=m.places.length)(hw2:inT w.time):WOk m N (Du tag x w):=by
 obtain⟨t1,t2,t3,t4⟩:=hx
 refine⟨t1,by simpa [Du]using t2,fun y hy=>?_,fun y hy=>?_⟩
 · simp only[Du]at hy
   rcases List.mem_or_eq_of_mem_set hy with hy | rfl
   · exact t3 y hy
   · exact hw
 · simp only[Du]at hy
   rcases List.mem_or_eq_of_mem_set hy with hy | rfl
   · exact t4 y hy
   · exact hw2
theorem Et{m:aT}(hm:m.ok){N:Nat}{b:Bel}(hb:BOk m N b)(tag:Int)(l:List Int)(a c:Int):BOk m N (if(lz m b tag l a c).2=0 then(lz m b tag l a c).1 else b):=by
 split
 · rename_i h0
   unfold lz at h0 ⊢
   by_cases e0:ly m b tag=0
   · simp only[e0,ne_eq,not_true_eq_false,if_false]at h0 ⊢
     obtain⟨_,bb⟩:=Er e0
     cases hf:(List.range b.worlds.length).find? (CG m tag l a c b.worlds)with
     | some i=>simp only[hf];exact hb
     | none=>
       simp only[hf]at h0 ⊢
       split at h0
       · simp at h0
       · rename_i hl
         rw[if_neg hl]
         have ln:=uu m tag l a c b.worlds b.worlds.length
         refine⟨by simp only;omega,by have:=hb.w2;simp only;omega,hb.n1,hb.n2,?_⟩
         have key:∀j,j≤b.worlds.length→∀x∈mZ m tag l a c b.worlds j,WOk m N x:=by
          intro j
          induction j with
          | zero=>intro _ x hx;simp[mZ]at hx
          | succ j ih=>
            intro hj x hx
            have wj:=hb.ws _ (aa (l:=b.worlds) (j:=j) (by omega))
            obtain⟨b1,b2⟩:=bb j (by omega)
            simp only[mZ,CE]at hx
            split at hx
            · exact ih (by omega) x hx
            · rcases List.mem_append.1 hx with hx | hx
              · exact ih (by omega) x hx
              · rw[List.mem_singleton.1 hx]
                split
                · exact J3 wj (MO hm _ l a c (wj.fr _ (aa (by omega)))) (R4 _ l a c (wj.ti _ (aa (by omega))))
                · exact wj
         exact key _ (Nat.le_refl _)
   · rw[if_pos e0]at h0 ⊢
     exact hb
 · exact hb
theorem Eu{m:aT}(hm:m.ok){N:Nat}{b:Bel}(hb:BOk m N b)(tag:Int)(l:List Int)(a c bl:Int):BOk m N (if(qQ m b tag l a c bl).2=0 then(qQ m b tag l a c bl).1 else b):=by
 split
 · rename_i h0
   unfold qQ at h0 ⊢
   by_cases e0:ly m b tag=0
   · simp only[e0,ne_eq,not_true_eq_false,if_false]at h0 ⊢
     obtain⟨_,bb⟩:=Er e0
     cases hf:(List.range b.worlds.length).find? (CJ m tag l a c bl b.worlds)with
     | some i=>simp only[hf];exact hb
     | none=>
       simp only[hf]
       have ln:=uv m tag l a c bl b.worlds b.worlds.length
       refine⟨by have:=hb.w1;simp only;omega,by have:=hb.w2;simp only;omega,hb.n1,hb.n2,?_⟩
       have key:∀j,j≤b.worlds.length→∀x∈oJ m tag l a c bl b.worlds j,WOk m N x:=by
        intro j
        induction j with
        | zero=>intro _ x hx;simp[oJ]at hx
        | succ j ih=>
          intro hj x hx
          have wj:=hb.ws _ (aa (l:=b.worlds) (j:=j) (by omega))
          obtain⟨b1,b2⟩:=bb j (by omega)
          simp only[oJ,Ep]at hx
          rcases List.mem_append.1 hx with hx | hx
          · exact ih (by omega) x hx
          · rw[List.mem_singleton.1 hx]
            split
            · exact J3 wj (MP hm _ l a c bl (wj.fr _ (aa (by omega)))) (R5 _ l a c bl (wj.ti _ (aa (by omega))))
            · exact wj
       exact key _ (Nat.le_refl _)
   · rw[if_pos e0]at h0 ⊢
     exact hb
 · exact hb
theorem J4{m:aT}{a b:Wh}(ha:a.frm.length=m.places.length)(hb:b.frm.length=m.places.length):(ie a b).1.frm.length=m.places.length:=by
 unfold ie
 rw[if_pos (by omega)]
 simp only[kW];exact ha
theorem F7{m:aT}(a b:List Wh)(ha:∀w∈a,w.frm.length=m.places.length)(hb:∀w∈b,w.frm.length=m.places.length):∀p,p≤a.length→p≤b.length→∀w∈iS a b p,w.frm.length=m.places.length
 | 0,_,_,w,hw=>ha w hw
 | p+1,h1,h2,w,hw=>by
   simp only[iS]at hw
   rcases List.mem_or_eq_of_mem_set hw with hw | rfl
   · exact F7 a b ha hb p (by omega) (by omega) w hw
   · exact J4 (ha _ (aa (by omega))) (hb _ (aa (by omega)))
theorem Hm{m:aT}{N:Nat}{out:List World}{x:World}(ho:∀y∈out,WOk m N y)(hx:WOk m N x):∀y∈gS out x,WOk m N y:=by
 intro y hy
 unfold gS at hy
 split at hy
 · rename_i h
   rcases List.mem_or_eq_of_mem_set hy with hy | rfl
   · exact ho y hy
   · obtain⟨s1,s2,s3,s4⟩:=ho _ (aa h.1)
     refine⟨hx.tg,?_,F7 _ _ s3 hx.fr _ (Nat.min_le_left _ _) (Nat.min_le_right _ _),F6 _ _ s4 hx.ti _ (Nat.min_le_left _ _) (Nat.min_le_right _ _)⟩
     show(iS _ _ _).length=_
     rw[gR];exact s2
 · rcases List.mem_append.1 hy with hy | hy
   · rcases List.mem_append.1 hy with hy | hy
     · exact ho y (List.mem_of_mem_take hy)
     · rw[List.mem_singleton.1 hy];exact hx
   · exact ho y (List.mem_of_mem_drop hy)
theorem zV{m:aT}{N:Nat}{l:List World}(hl:∀x∈l,WOk m N x):∀j,j≤l.length→∀y∈oK l j,WOk m N y
 | 0,_,y,hy=>by simp[oK]at hy
 | j+1,h,y,hy=>Hm (zV hl j (by omega)) (hl _ (aa (by omega))) y hy
theorem Hn{m:aT}{N:Nat}{i j:Nat}{t:Int}{x:World}(h:WOk m N x)(hi:i<N)(hj:j<N):WOk m N (sW i j t x):=by
 obtain⟨s1,s2,s3,s4⟩:=h
 refine⟨by simpa [sW,Hj]using s1,by simpa [sW]using s2,fun w hw=>?_,fun w hw=>?_⟩
 · simp only[sW]at hw
   rcases List.mem_or_eq_of_mem_set hw with hw | rfl
   · rcases List.mem_or_eq_of_mem_set hw with hw | rfl
     · exact s3 w hw
     · rw[rD];exact s3 _ (aa (by omega))
   · rw[rD];exact s3 _ (aa (by omega))
 · simp only[sW]at hw
   rcases List.mem_or_eq_of_mem_set hw with hw | rfl
   · rcases List.mem_or_eq_of_mem_set hw with hw | rfl
     · exact s4 w hw
     · exact CM (s4 _ (aa (by omega)))
   · exact CM (s4 _ (aa (by omega)))
theorem sX{m:aT}{N:Nat}{ws:List World}(h:∀x∈ws,WOk m N x){i j:Nat}{t:Int}(hi:i<N)(hj:j<N):∀k,k≤ws.length→∀x∈iz i j t ws k,WOk m N x
 | 0,_,x,hx=>h x hx
 | k+1,hk,x,hx=>by
   simp only[iz,yB]at hx
   split at hx
   · rcases List.mem_append.1 hx with hx | hx
     · exact sX h hi hj k (by omega) x hx
     · rw[List.mem_singleton.1 hx];exact Hn (h _ (aa (by omega))) hi hj
   · exact sX h hi hj k (by omega) x hx
theorem CN{m:aT}{N:Nat}{b:Bel}(hb:BOk m N b)(i j t:Int):BOk m N (if(m0 m b i j t).2=0 then(m0 m b i j t).1 else b):=by
 split
 · rename_i h0
   unfold m0 at h0 ⊢
   split at h0
   · simp at h0
   · rename_i c1
     rw[if_neg c1]
     split at h0
     · simp at h0
     · rename_i c2
       rw[if_neg c2]
       split at h0
       · simp at h0
       · rename_i c3
         rw[if_neg c3]
         split at h0
         · simp at h0
         · rename_i c4
           rw[if_neg c4]
           have t0:=(hb.ws _ (aa (l:=b.worlds) (j:=0) (by have:=hb.w1;omega))).tg
           have ln:=rC i.toNat j.toNat t b.worlds b.worlds.length
           have w1:=hb.w1
           refine⟨?_,by simp only;omega,hb.n1,hb.n2,?_⟩
           · simp only[nf]
             cases hn:(iz i.toNat j.toNat t b.worlds b.worlds.length).length with
             | zero=>omega
             | succ n=>exact(ux _ _).2.2
           · exact zV (sX hb.ws (by omega) (by omega) _ (Nat.le_refl _)) _ (Nat.le_refl _)
 · exact hb
theorem CO{m:aT}(hm:m.ok){N:Nat}{n:Int}{s:BSt}(hb:BOk m N s.b):BOk m N (aC.ko m n s).b:=by
 unfold aC.ko
 simp only
 split
 · exact CN hb _ _ _
 · split
   · exact Et hm hb _ _ _ _
   · exact Eu hm hb _ _ _ _ _
theorem CP{m:aT}{n:Int}{s:BSt}:s.t≤(aC.ko m n s).t∧(aC.ko m n s).t≤s.t+60:=by
 have h1:=s.d.dG 60
 have h2:=s.d.dH (n:=60) (by omega)
 unfold aC.ko
 simp only
 split
 · simp only;omega
 · split<;>(simp only;omega)
theorem yD{m:aT}(hm:m.ok){N:Nat}{n:Int}{s:BSt}(hb:BOk m N s.b)(hd:s.d.dY)(ht:s.t=100):∀k,BOk m N (aC.vq m n s k).b∧(aC.vq m n s k).d.dY∧100≤(aC.vq m n s k).t∧(aC.vq m n s k).t≤100+60*k
 | 0=>⟨hb,hd,by simp[aC.vq,ht],by simp[aC.vq,ht]⟩
 | k+1=>by
   obtain⟨h1,h2,h3,h4⟩:=yD hm hb hd ht k
   have ht:=CP (m:=m) (n:=n) (s:=aC.vq m n s k)
   exact⟨CO hm h1,AU h2,by simp only[aC.vq];omega,by simp only[aC.vq];omega⟩
theorem wE{n:Nat}(h:n≤3):eH (pX n)=true:=by
 match n,h with
 | 0,_=>decide
 | 1,_=>decide
 | 2,_=>decide
 | 3,_=>decide
theorem qS(d:aC){n:Int}(hn:1≤n):∀k,∀x∈(d.lA n k).1,0≤x∧x<n
 | 0,x,hx=>by simp[aC.lA]at hx
 | k+1,x,hx=>by
   simp only[aC.lA,List.mem_append,List.mem_singleton]at hx
   rcases hx with hx | rfl
   · exact qS d hn k x hx
   · exact⟨aC.dG _ _,aC.dH _ hn⟩
theorem yE(d:aC):1≤d.om∧d.om≤3:=by
 have h1:=d.dG 3
 have h2:=d.dH (n:=3) (by omega)
 unfold aC.om;omega
theorem AV{m:aT}(hm:m.ok)(h1:1≤m.places.length)(d:aC):
 (rB m (pX d.om) (d.lV m).1 ((d.lV m).2.next 100).1)=(⟨[⟨pX d.om,gB m (d.lV m).1 ((d.lV m).2.next 100).1 (pX d.om).length⟩]⟩,0):=by
 have pb:=yE d
 have tl:=kn d.om
 have sl:(d.lV m).1.length=d.om:=aC.jS _ _ _
 have t0:=(d.lV m).2.dG 100
 have t9:=(d.lV m).2.dH (n:=100) (by omega)
 have np:=hm.np
 unfold rB
 rw[if_pos (by omega),if_pos (wE (by omega))]
 have:(List.range (pX d.om).length).find? (fun i=> !decide ((fQ m (nth (d.lV m).1 i) ((d.lV m).2.next 100).1).2=0))=none:=by
  rw[List.find?_eq_none]
  intro i hi
  have hi:i<(d.lV m).1.length:=by rw[sl,←tl];exact List.mem_range.1 hi
  have:=qS (d.next 3).2 (n:=m.places.length) (by omega) d.om _ (aa hi)
  have:=(CL hm this.1 this.2 (t:=((d.lV m).2.next 100).1) ⟨by omega,by omega⟩).1
  have e:(fQ m (nth (d.lV m).1 i) ((d.lV m).2.next 100).1).2=0:=this
  simp[e]
 rw[this]
theorem CQ{m:aT}(hm:m.ok)(h1:1≤m.places.length)(d:aC):BOk m d.om (d.Ia m).b:=by
 have pb:=yE d
 have tl:=kn d.om
 have sl:(d.lV m).1.length=d.om:=aC.jS _ _ _
 have t0:=(d.lV m).2.dG 100
 have t9:=(d.lV m).2.dH (n:=100) (by omega)
 have np:=hm.np
 unfold aC.Ia
 rw[AV hm h1]
 refine⟨by simp,by simp,by omega,by omega,fun x hx=>?_⟩
 rw[List.mem_singleton.1 hx]
 refine⟨tl,by simp[tl],fun w hw=>?_,fun w hw=>by
  simp only[gB,List.mem_map,List.mem_range]at hw
  obtain⟨i,hi,rfl⟩:=hw
  exact J2 ⟨by omega,by omega⟩⟩
 simp only[gB,List.mem_map,List.mem_range]at hw
 obtain⟨i,hi,rfl⟩:=hw
 have hi:i<(d.lV m).1.length:=by rw[sl,←tl];exact hi
 have:=qS (d.next 3).2 (n:=m.places.length) (by omega) d.om _ (aa hi)
 exact(CL hm this.1 this.2 ⟨by omega,by omega⟩).2
theorem J5{m:aT}(hm:m.ok)(h1:1≤m.places.length){d:aC}(hd:d.dY):BOk m d.om (d.qR m).1∧(d.qR m).2.dY:=by
 have l0:(d.Ia m).d.dY:=aC.aV (aC.aV (aC.nE (aC.aV hd 3) _ _) _) _
 obtain⟨h1,h2, -⟩:=yD hm (CQ hm h1 d) l0 rfl (n:=d.om) (d.J0 m)
 exact⟨h1,h2⟩
theorem J6{m:aT}(hm:m.ok)(d:aC)(hd:d.dY)(n:Nat)(hn:n≤12)(a b c e f g h i j k:D):
 exS aO K.mA ⟨[.bp 0 0,a,.bp 1 0,.bp 2 0,I n,.ref 3 0 0,.ref 4 0 0,I 0,b,c,e,f,g,h,i,j,k,.und],[d.obj,.box (ah m),.box [.nil],.arr 1 false 0 [],.arr 1 false 0 []]⟩=
 some (.exit 0,⟨[.bp 0 0,.und,.bp 1 0,.bp 2 0,I n,.ref 3 0 n,.ref 4 0 n,I n,.und,.und,.und,.und,.und,.und,.und,.und,.und,.und],[(d.lA m.places.length n).2.obj,.box (ah m),.box [.nil],.arr 1 false 0 (ints (pX n)),.arr 1 false 0 (ints (d.lA m.places.length n).1)]⟩):=by
 refine dC (fun k=>⟨[.bp 0 0,.und,.bp 1 0,.bp 2 0,I n,.ref 3 0 k,.ref 4 0 k,I k,.und,.und,.und,.und,.und,.und,.und,.und,.und,.und],[(d.lA m.places.length k).2.obj,.box (ah m),.box [.nil],.arr 1 false 0 (ints (pX k)),.arr 1 false 0 (ints (d.lA m.places.length k).1)]⟩) n rfl ?_ ?_ (by simp)
 · intro j hj
   have np:=hm.np
   have tl:=kn j
   have sl:=d.jS m.places.length j
   have lt:=aC.nE hd m.places.length j
   simp only[pX,aC.lA]
   generalize pX j=ts at*
   generalize d.lA m.places.length j=s at*
   obtain⟨ss,d1⟩:=s
   simp only at sl lt ⊢
   have h1:=fV d1 m.places.length (by omega) lt
   generalize d1.next m.places.length=r at*
   obtain⟨x,d2⟩:=r
   simp only at h1 ⊢
   simp (disch:=omega) only[go_sem,K.iY,↓reduceIte,ints,h1,Nat.reduceAdd,Nat.reduceSub]
 · have tl:=kn n
   have sl:=d.jS m.places.length n
   simp (disch:=omega) only[go_sem,K.iY,↓reduceIte,ints,Nat.reduceAdd,Nat.reduceSub]
theorem J7{m:aT}(hm:m.ok){N:Nat}(n:Int)(n1:1≤n)(n2:n≤12)(tags starts:List Int)(s:BSt)(hd:s.d.dY)(hb:BOk m N s.b)(ht:s.t=100)(p1 p2:Bool)(kk:Nat)(hK:kk≤100):
 mz true [1,5,6,7,11,12,13,14,15,16,17] (exS aO K.bA) ⟨[.bp 0 0,.und,.bp 1 0,.bp 2 0,I n,.und,.und,.und,.bp 5 0,I s.t,I kk,.und,.und,.und,.und,.und,.und,.und],blH m p1 p2 tags starts s⟩=
 some (.exit 2,⟨[.bp 0 0,.und,.bp 1 0,.bp 2 0,I n,.und,.und,.und,.bp 5 0,I (aC.vq m n s kk).t,I 0,.und,.und,.und,.und,.und,.und,.und],blH m p1 p2 tags starts (aC.vq m n s kk)⟩):=by
 have key:=w7 (gc:=true) (dead:=[1,5,6,7,11,12,13,14,15,16,17]) (body:=exS aO K.bA)
  (fun k=>⟨[.bp 0 0,.und,.bp 1 0,.bp 2 0,I n,.und,.und,.und,.bp 5 0,I (aC.vq m n s k).t,I ((kk-k:Nat):Int),.und,.und,.und,.und,.und,.und,.und],blH m p1 p2 tags starts (aC.vq m n s k)⟩)
  (p:=(.exit 2,⟨[.bp 0 0,.und,.bp 1 0,.bp 2 0,I n,.und,.und,.und,.bp 5 0,I (aC.vq m n s kk).t,I 0,.und,.und,.und,.und,.und,.und,.und],blH m p1 p2 tags starts (aC.vq m n s kk)⟩)) kk ?_ ?_
 · exact key
 · intro k hk
   obtain⟨g1,g2,g3,g4⟩:=yD hm (n:=n) hb hd ht k
   have:=J1 hm n n1 n2 tags starts (aC.vq m n s k) g2 (g1.sz hm) (by omega) (by omega) (kk-(k+1)) (by omega) p1 p2
   rw[show(((kk-(k+1):Nat):Int)+1)=((kk-k:Nat):Int)by omega]at this
   exact this
 · refine dk ?_ (by simp)
   simp only[Nat.sub_self]
   simp (disch:=omega) only[go_sem,K.bA,↓reduceIte,blH,Nat.reduceAdd,Nat.reduceSub]
theorem J8{m:aT}(hm:m.ok)(h1:1≤m.places.length)(d:aC)(hd:d.dY):aO 0 N.bX [.bp 0 0,.t m.e] [d.obj]=some (.t (d.qR m).1.e,[(d.qR m).2.obj]):=by
 refine ax K.j7 rfl ?_
 have np:=hm.np
 have pb:=yE d
 have eP:(d.om:Int)=1+(d.next 3).1:=by have:=d.dG 3;unfold aC.om;omega
 have g0:=CQ hm h1 d
 have e0:=AV hm h1 d
 have a1:=fV d 3 (by omega) hd
 have l1:=aC.aV hd 3
 have q1:=fun a b c e f g h i j k=>J6 hm (d.next 3).2 l1 d.om (by omega) a b c e f g h i j k
 have eS:(d.next 3).2.lA m.places.length d.om=d.lV m:=rfl
 rw[eS]at q1
 have lS:(d.lV m).2.dY:=aC.nE l1 _ _
 have a2:=fV (d.lV m).2 100 (by omega) lS
 have l2:=aC.aV lS 100
 have a3:=fV ((d.lV m).2.next 100).2 5 (by omega) l2
 have l3:=aC.aV l2 5
 have k0:=((d.lV m).2.next 100).2.dG 5
 have k9:=((d.lV m).2.next 100).2.dH (n:=5) (by omega)
 have eK:(d.J0 m:Int)=(((d.lV m).2.next 100).2.next 5).1:=by unfold aC.J0;omega
 have st:=Eo hm (pX d.om) (d.lV m).1 (by rw[kn];omega) ((d.lV m).2.next 100).1
 have tl:=kn d.om
 have sl:(d.lV m).1.length=d.om:=aC.jS _ _ _
 rw[e0]at st
 have b0:d.Ia m=⟨⟨[⟨pX d.om,gB m (d.lV m).1 ((d.lV m).2.next 100).1 (pX d.om).length⟩]⟩,100,(((d.lV m).2.next 100).2.next 5).2⟩:=by unfold aC.Ia;rw[e0]
 have q2:=fun p1 p2=>J7 hm d.om (by omega) (by omega) (pX d.om) (d.lV m).1 (d.Ia m) (by rw[b0];exact l3) g0 rfl p1 p2 (d.J0 m) (by omega)
 have q2:=fun p1 p2 a b c e f g h i j k l=>uZ (vs:=[.bp 0 0,a,.bp 1 0,.bp 2 0,I d.om,b,c,e,.bp 5 0,I 100,I (d.J0 m),f,g,h,i,j,k,l]) (q2 p1 p2)
 have eF:aC.vq m d.om (d.Ia m) (d.J0 m)=d.Z1 m:=rfl
 rw[eF]at q2
 unfold aC.qR
 rw[b0]at q2
 generalize d.Z1 m=F at*
 generalize (pX d.om)=tags at*
 generalize gB m (d.lV m).1 ((d.lV m).2.next 100).1 tags.length=sw at*
 generalize d.J0 m=kk at*
 generalize (((d.lV m).2.next 100).2.next 5)=z3 at*
 generalize ((d.lV m).2.next 100)=z2 at*
 generalize d.lV m=z1 at*
 generalize d.next 3=z0 at*
 generalize d.om=n at*
 obtain⟨x3,d3⟩:=z3
 obtain⟨x2,d2⟩:=z2
 obtain⟨ss,d1⟩:=z1
 obtain⟨x0,d0⟩:=z0
 obtain⟨⟨wf⟩,tf,df⟩:=F
 simp only[List.map_cons,List.map_nil,blH]at*
 have q2:∀p1 p2 a b c e f g h i j k l,exS aO K.mB _=_:=q2
 simp (disch:=omega) only[go_sem,K.bX,↓reduceIte,ints,a1,eP.symm,q1,a2,a3,st,eK.symm,tl,sl,q2,Nat.reduceAdd,Nat.reduceSub]
def aC.spread(d:aC)(m:aT)(fl:List Spn):Wh×aC:=
 let p:=d.next m.places.length
 let t:=p.2.next 200
 let s:=Xh m fl [p.1] t.1
 let o:=t.2.one 2
 if o.1=true then
  let f:=o.2.acD m
  let a:=f.2.next 100
  let r:=Rn m fl m f.1 s.1 (s.1.time+a.1)
  if r.2=0 then(r.1,a.2)else(s.1,a.2)
 else(s.1,o.2)
structure Mch where
 kind:Int
 num:Int
 pl:List Int
instance : Dat Mch := ⟨⟨0, 0, []⟩⟩
abbrev Mch.e(x:Mch):T:= .agg [tI x.kind,tI x.num,tL x.pl]
@[go_sem] theorem Xy (l : List Mch) : nK 3 (l.map Mch.e) = true := by cases l <;> rfl
end Go.Ev
