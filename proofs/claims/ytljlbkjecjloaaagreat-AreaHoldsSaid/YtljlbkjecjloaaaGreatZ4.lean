/- Parts of the proof: see the text that holds the theorem. -/
import Derived.Test.YtljlbkjecjloaaaGreatZ3
set_option linter.all false
set_option maxRecDepth 100000
namespace Go.Ev
open Go
variable [Lib] [cn] [bS] [gV] [gW]
section
variable (H : aj) (sz : Nat)
def NX(id ep n lo hi:Nat)(ys:List D):Option Obj→Option (D×aj)
 | some (.arr sz' pin ep' es)=>if ep=ep'∧n=es.length then Ov H id ep (sz',pin,es) lo hi ys sz else none
 | _=>none
def cpD(x:D)(ys:List D):Option (D×aj):=if cG sz ys=true then(match x with
 | .ref id ep n=>NX H sz id ep n 0 n ys H[id]?
 | .sub id ep n lo hi=>NX H sz id ep n lo hi ys H[id]?
 | _=>none)else none
def Xv(x y:Option D):Option (D×aj):=x.bind fun a=>y.bind fun b=>zZ H a b sz
@[go_sem] theorem abo (call : aS) (get : X → Option D) (x y : X) : evO call get H (.cp x y sz) = Xv H sz (get x) (get y) := (rfl)
theorem FH(x y:D)(ys:List D)(h:elems H y=some ys):zZ H x y sz=cpD H sz x ys:=by
 unfold zZ cpD
 rw[h,Option.bind_some]
 split
 · rename_i hh
   cases x with
   | ref id ep n=>
     simp only[fW,NX]
     cases H[id]? with
     | none=>rfl
     | some o=>
       cases o with
       | box cs=>rfl
       | arr sz' pin ep' es=>
         simp only
         by_cases c:ep=ep'∧n=es.length
         · rw[if_pos c,if_pos c];rfl
         · rw[if_neg c,if_neg c];rfl
   | sub id ep n lo hi=>
     simp only[fW,NX]
     cases H[id]? with
     | none=>rfl
     | some o=>
       cases o with
       | box cs=>rfl
       | arr sz' pin ep' es=>
         simp only
         by_cases c:ep=ep'∧n=es.length
         · rw[if_pos c,if_pos c];rfl
         · rw[if_neg c,if_neg c];rfl
   | _=>rfl
 · rfl
@[go_sem] theorem aaH (x : D) (ts : List T) : Xv H sz (some x) (some (.t (.sl ts))) = cpD H sz x (ts.map .t) := FH H sz x (.t (.sl ts)) (ts.map .t) rfl
def cpE(x:D)(ep n lo hi:Nat):Option Obj→Option (D×aj)
 | some (.arr _ _ ep' es)=>if ep=ep'∧n=es.length then cpD H sz x ((es.drop lo).take (hi-lo))else none
 | _=>none
@[go_sem] theorem ZJ (x : D) (n lo hi sz' : Nat) (pin : Bool) (ep : Nat) (es : List D) : cpE H sz x ep n lo hi (some (.arr sz' pin ep es)) = if n = es.length then cpD H sz x ((es.drop lo).take (hi - lo)) else none := by simp [cpE]
@[go_sem] theorem Xw (x : D) (id ep n lo hi : Nat) : Xv H sz (some x) (some (.sub id ep n lo hi)) = cpE H sz x ep n lo hi H[id]? := by
 unfold Xv
 simp only[Option.bind_some]
 cases h:H[id]? with
 | none=>simp[zZ,elems,fW,h,cpE]
 | some o=>
   cases o with
   | box cs=>simp[zZ,elems,fW,h,cpE]
   | arr sz' pin ep' es=>
     by_cases c:ep=ep'∧n=es.length
     · rw[FH H sz x _ ((es.drop lo).take (hi-lo)) (by simp[elems,fW,h,c])]
       simp only[cpE,if_pos c]
     · simp[zZ,elems,fW,h,cpE,c]
@[go_sem] theorem ZK (id ep n : Nat) (ys : List D) : cpD H sz (.ref id ep n) ys = if cG sz ys = true then NX H sz id ep n 0 n ys H[id]? else none := (rfl)
@[go_sem] theorem ZL (id ep n lo hi : Nat) (ys : List D) : cpD H sz (.sub id ep n lo hi) ys = if cG sz ys = true then NX H sz id ep n lo hi ys H[id]? else none := (rfl)
@[go_sem] theorem Xx (id n lo hi : Nat) (ys : List D) (ep : Nat) (es : List D) : NX H sz id ep n lo hi ys (some (.arr sz false ep es)) =
 if n=es.length then(if min ys.length (hi-lo)=0 then some (.t (.int .i64 0),H)else some (.t (.int .i64 ((min ys.length (hi-lo):Nat):Int)),H.set id (.arr sz false ep (es.take lo++ys.take (min ys.length (hi-lo))++es.drop (lo+min ys.length (hi-lo))))))else none:=by
 simp[NX,Ov]
end
theorem Md{n:Int}(h1:0≤n)(h2:n<18446744073709551616):IntKind.u64.wrap n=n:=by
 have e:IntKind.u64.wrap n=n % 18446744073709551616:=by simp[IntKind.wrap,IntKind.signed,IntKind.bits]
 rw[e];omega
theorem Ve{n:Nat}(h:n<4294967296):IntKind.u64.wrap ((BitVec.ofInt IntKind.u64.bits (n:Int) &&& BitVec.ofInt IntKind.u64.bits 4294967295).toNat:Nat)=(n:Int):=by
 have e:(BitVec.ofInt IntKind.u64.bits (n:Int) &&& BitVec.ofInt IntKind.u64.bits 4294967295).toNat=n:=by
  rw[BitVec.toNat_and]
  have a:(BitVec.ofInt IntKind.u64.bits (n:Int)).toNat=n:=by
   rw[BitVec.ofInt_natCast,BitVec.toNat_ofNat]
   exact Nat.mod_eq_of_lt (Nat.lt_of_lt_of_le h (by decide))
  have b:(BitVec.ofInt IntKind.u64.bits 4294967295).toNat=2 ^ 32-1:=by decide
  rw[a,b,Nat.and_two_pow_sub_one_eq_mod]
  exact Nat.mod_eq_of_lt h
 rw[e]
 exact Md (by omega) (by omega)
theorem Vf{n:Nat}(h:n<4294967296):(n:Int).fdiv (2 ^ min (32:Int).toNat IntKind.u64.bits)=0:=by
 have e:(2 ^ min (32:Int).toNat IntKind.u64.bits:Int)=4294967296:=by decide
 rw[e,Int.fdiv_eq_ediv_of_nonneg _ (by omega)]
 omega
theorem NY{n:Nat}(h:n<4294967296):(((BitVec.ofInt IntKind.u64.bits (n:Int) &&& BitVec.ofInt IntKind.u64.bits 4294967295).toNat:Nat):Int)=(n:Int):=by
 have e:=Ve h
 rwa [Md (by omega) (by
  have:(BitVec.ofInt IntKind.u64.bits (n:Int) &&& BitVec.ofInt IntKind.u64.bits 4294967295).toNat<2 ^ IntKind.u64.bits:=BitVec.isLt _
  have:2 ^ IntKind.u64.bits=18446744073709551616:=by decide
  omega)]at e
theorem Me(a b:Nat)(ha:a<4294967296)(hb:b<4294967296)(h:a*b<4294967296):aN 0 N.cN [.t (.int .u64 a),.t (.int .u64 b)] []=some (.tup [.t (.int .u64 0),.t (.int .u64 ((a*b:Nat):Int))],[]):=by
 refine ax K.kJ rfl ?_
 have m:(a:Int)*(b:Int)=((a*b:Nat):Int):=(Int.natCast_mul a b).symm
 have z:=Ve (n:=0) (by omega)
 have z2:=Vf (n:=0) (by omega)
 have z3:=NY (n:=0) (by omega)
 have g3:=fun(n:Nat) (h:n<4294967296)=>NY (n:=n) h
 have g4:=fun(n:Nat) (h:n<4294967296)=>Vf (n:=n) h
 simp only[Int.ofNat_zero,Int.natCast_zero]at z z2 z3
 simp only[go_sem]at z2 z3 g3 g4
 simp (disch:=omega) only[go_sem,K.cN,↓reduceIte,g3,g4,m,z2,z3,Md,Int.zero_mul,Int.mul_zero,Int.add_zero,Int.zero_add,Nat.reduceAdd,Nat.reduceSub]
theorem Vg(a b:Nat)(ha:a<4294967296)(hb:b<4294967296)(h:a*b<4294967296):aN 0 N.dA [.t (.int .u64 a),.t (.int .u64 b)] []=some (.tup [.t (.int .u64 0),.t (.int .u64 ((a*b:Nat):Int))],[]):=by
 refine ax K.mL rfl ?_
 have m:=Me a b ha hb h
 simp (disch:=omega) only[go_sem,K.dA,↓reduceIte,m,Nat.reduceAdd,Nat.reduceSub]
def xh(v:Int)(n cur:Nat):List D:=List.replicate cur (I v)++List.replicate (n-cur) (I 0)
theorem FI(v:Int){n cur:Nat}(h:cur≤n):(xh v n cur).length=n:=by simp[xh];omega
theorem Jo(v:Int){n cur m:Nat}(h:cur+m≤n)(hm:m≤cur):(xh v n cur).take cur++((xh v n cur).take cur).take m++(xh v n cur).drop (cur+m)=xh v n (cur+m):=by
 unfold xh
 have e1:(List.replicate cur (I v)++List.replicate (n-cur) (I 0)).take cur=List.replicate cur (I v):=by
  rw[List.take_append_of_le_length (by simp),List.take_of_length_le (by simp)]
 have e2:(List.replicate cur (I v)++List.replicate (n-cur) (I 0)).drop (cur+m)=List.replicate (n-(cur+m)) (I 0):=by
  rw[List.drop_append,List.length_replicate]
  simp;omega
 rw[e1,e2,List.take_replicate,Nat.min_eq_left hm,List.replicate_append_replicate]
theorem Vh(v:Int)(n cur:Nat):∃ts:List T,xh v n cur=ts.map .t:=⟨List.replicate cur (tI v)++List.replicate (n-cur) (tI 0),by simp[xh]⟩
theorem Cl(v:Int)(n cur:Nat)(lo k:Nat):cG 1 (((xh v n cur).drop lo).take k)=true:=by
 cases h:((xh v n cur).drop lo).take k with
 | nil=>rfl
 | cons d r=>
   have hm:d∈xh v n cur:=List.mem_of_mem_drop (List.mem_of_mem_take (h▸List.mem_cons_self))
   unfold xh at hm
   simp only[List.mem_append,List.mem_replicate]at hm
   rcases hm with⟨-,rfl⟩ | ⟨-,rfl⟩<;>rfl
theorem D7(v:Int)(n:Nat)(hn:n≤1000000):∀(k cur:Nat),n-cur≤k→1≤cur→cur≤n→
 mz true [0,1,2,3,4] (exS aN K.cO) ⟨[.und,.und,.und,.und,.und,.ref 0 0 n,I cur],[.arr 1 false 0 (xh v n cur)]⟩=
  some (.exit 0,⟨[.und,.und,.und,.und,.und,.ref 0 0 n,I n],[.arr 1 false 0 (xh v n n)]⟩):=by
 intro k
 induction k with
 | zero=>
   intro cur h1 h2 h3
   have:cur=n:=by omega
   subst this
   refine c7 ?_ (by simp)
   have rl:=FI v (Nat.le_refl cur)
   simp (disch:=omega) only[go_sem,K.cO,↓reduceIte,Nat.reduceAdd,Nat.reduceSub]
 | succ k ih=>
   intro cur h1 h2 h3
   by_cases c:cur=n
   · subst c
     refine c7 ?_ (by simp)
     simp (disch:=omega) only[go_sem,K.cO,↓reduceIte,Nat.reduceAdd,Nat.reduceSub]
   · have rl:=FI v (n:=n) (cur:=cur) (by omega)
     have st:=Jo v (n:=n) (cur:=cur) (m:=min cur (n-cur)) (by omega) (by omega)
     have hs:=Cl v n cur 0 cur
     rw[List.drop_zero]at hs
     have tl:((xh v n cur).take cur).length=cur:=by rw[List.length_take];omega
     refine jO (st2:=⟨[.und,.und,.und,.und,.und,.ref 0 0 n,I ((cur+min cur (n-cur):Nat):Int)],[.arr 1 false 0 (xh v n (cur+min cur (n-cur)))]⟩) ?_ (ih _ (by omega) (by omega) (by omega))
     rw[← st]
     obtain⟨ts,hts⟩:=Vh v n cur
     have ao:∀a b c:Nat,fU 1 8 ((xh v n cur).take a)=true∧fU 1 8 (((xh v n cur).take a).take b)=true∧fU 1 8 ((xh v n cur).drop c)=true:=fun a b c=>by
      rw[hts,←List.map_take,←List.map_take,←List.map_drop]
      simp only[go_sem,and_self]
     have ao1:=fun a=>(ao a 0 0).1
     have ao2:=fun a b=>(ao a b 0).2.1
     have ao3:=fun c=>(ao 0 0 c).2.2
     clear ao hts
     generalize xh v n cur=es at*
     simp (disch:=omega) only[go_sem,K.cO,↓reduceIte,rl,hs,tl,ao1,ao2,ao3,and_self,List.drop_zero,Nat.sub_zero,Nat.reduceAdd,Nat.reduceSub]
theorem Jp(v:Int)(n:Nat)(h1:1≤n)(hn:n≤1000000):aN 1 N.bc [.t (tL [v]),I n] []=some (.ref 0 0 n,[.arr 1 false 0 (List.replicate n (I v))]):=by
 refine ax K.gB rfl ?_
 have m:=Vg 1 n (by omega) (by omega) (by omega)
 rw[Nat.one_mul]at m
 change aN 0 N.dA [.t (.int .u64 1),.t (.int .u64 n)] []=_ at m
 have w1:IntKind.u64.wrap 1=1:=by decide
 have w2:IntKind.u64.wrap (n:Int)=n:=Md (by omega) (by omega)
 have w3:IntKind.i64.wrap (n:Int)=n:=uW (by omega) (by omega)
 have lp:=D7 v n hn n 1 (by omega) (by omega) h1
 have loop:∀z0 z1 z2 z3 z4:D,exS aN K.jP ⟨[z0,z1,z2,z3,z4,.ref 0 0 n,I 1],[.arr 1 false 0 (I v::List.replicate (n-1) (I 0))]⟩=some (.exit 0,⟨[.und,.und,.und,.und,.und,.ref 0 0 n,I n],[.arr 1 false 0 (List.replicate n (I v))]⟩):=by
  intro z0 z1 z2 z3 z4
  have e1:xh v n 1=I v::List.replicate (n-1) (I 0):=rfl
  have e2:xh v n n=List.replicate n (I v):=by simp[xh]
  rw[e1,e2]at lp
  exact lp
 have dr:(List.replicate n (D.t (.int .i64 0))).drop 1=List.replicate (n-1) (I 0):=List.drop_replicate ..
 have mn:min 1 n=1:=by omega
 have ar:∀H:aj,tP H 8 (List.replicate n (I v))=[]:=fun H=>by
  have e:List.replicate n (I v)=(List.replicate n (tI v)).map D.t:=by simp
  rw[e]
  unfold tP
  exact IN ..
 simp (disch:=omega) only[go_sem,K.bc,↓reduceIte,tL,List.map_cons,List.map_nil,m,w1,w2,w3,loop,dr,mn,ar,List.length_replicate,Nat.sub_zero,List.take_zero,List.nil_append,List.take_succ_cons,Nat.zero_add,Nat.reduceAdd,Nat.reduceSub]
end Go.Ev
namespace Go.Ev
open Go
variable [Lib] [cn] [bS]
structure Spn where
 low:Int
 high:Int
instance : Dat Spn := ⟨⟨0, 0⟩⟩
abbrev Spn.e(f:Spn):T:= .agg [tI f.low,tI f.high]
def Spn.ok(f:Spn):Prop:= -1125899906842624≤f.low∧f.high≤1125899906842624∧f.low≤f.high
instance (f : Spn) : Decidable f.ok := by unfold Spn.ok; infer_instance
def Jq(m:aT)(l:List Spn):Bool:=(List.range l.length).all (fun j=>decide (nth l j).ok)&&decide (l.length=m.roads.length)
def vi(x:Road)(f:Spn)(back:Bool):Int:=
 if x.closed=true then -1 else
 let g:=if back then -f.low else f.high
 let out:=if 0<g then(x.len*x.area*1000).tdiv g else -1
 if(if back then f.low<500*x.area else -500*x.area<f.high)∧(out<0∨x.len<out)then x.len else out
def Vi(l:List Int)(p q:Nat)(t:Int):Bool:=decide (0≤t∧nth l p+t<nth l q)
def ZM(l:List Int)(p q:Nat)(t:Int):List Int:=if Vi l p q t=true then l.set q (nth l p+t)else l
def NZ(m:aT)(fl:List Spn)(k:Nat)(back:Bool)(l:List Int):List Int×Bool:=
 (ZM l ((nth m.roads k).src back).toNat ((nth m.roads k).dst back).toNat (vi (nth m.roads k) (nth fl k) back),Vi l ((nth m.roads k).src back).toNat ((nth m.roads k).dst back).toNat (vi (nth m.roads k) (nth fl k) back))
def Vj(m:aT)(fl:List Spn)(k:Nat)(s:List Int×Bool):List Int×Bool:=
 let a:=NZ m fl k false s.1
 let b:=NZ m fl k true a.1
 (b.1,s.2||a.2||b.2)
def Jr(m:aT)(fl:List Spn)(l:List Int):Nat→List Int×Bool
 | 0=>(l,false)
 | k+1=>Vj m fl k (Jr m fl l k)
def QF(m:aT)(fl:List Spn)(l:List Int):List Int×Bool:=Jr m fl l m.roads.length
section
variable {m : aT} (h : m.ok) {fl : List Spn}
include h
end
def Xy(l:List Int):Nat→List Int
 | 0=>l
 | j+1=>if 2147483648<nth (Xy l j) j then(Xy l j).set j 1099511627776 else Xy l j
def N0(m:aT)(fl:List Spn)(l:List Int):List Int:=Xy (iY (QF m fl) (xd l+1) l) m.places.length
end Go.Ev
namespace Go.Ev
open Go
variable [Lib] [cn] [bS]
def plS(t x:Int):Prop:=x=1099511627776∨(t≤x∧x≤2147483648)
instance (t x : Int) : Decidable (plS t x) := by unfold plS; infer_instance
def Js(m:aT)(s:Wh):Bool:=(List.range s.frm.length).all (fun j=>decide (plS s.time (nth s.frm j)))&&decide (s.frm.length=m.places.length∧inT s.time)
def ZN(l:List Int)(t:Int)(n:Nat):List Int:=(List.range n).map fun(p:Nat)=>if(p:Int)∈l then t else 1099511627776
def Vk(m:aT)(fl:List Spn)(l:List Int)(t:Int):Wh×Int:=
 if Jq m fl=false then(⟨0,[]⟩,6)else if sI l m.places.length=false then(⟨0,[]⟩,3)else if ¬inT t then(⟨0,[]⟩,8)else
 (⟨t,N0 m fl (ZN l t m.places.length)⟩,0)
def N1(m:aT)(fl:List Spn)(frm:List Int)(t:Int)(k:Nat)(back:Bool)(l:List Int):List Int:=
 if nth frm ((nth m.roads k).src back).toNat≤t∧0≤vi (nth m.roads k) (nth fl k) back then l.set ((nth m.roads k).dst back).toNat (min (nth l ((nth m.roads k).dst back).toNat) t)else l
def Vl(m:aT)(fl:List Spn)(frm:List Int)(t:Int)(k:Nat)(l:List Int):List Int:=N1 m fl frm t k true (N1 m fl frm t k false l)
def chN(m:aT)(fl:List Spn)(frm:List Int)(t:Int):Nat→List Int
 | 0=>frm
 | k+1=>Vl m fl frm t k (chN m fl frm t k)
def ZO(t:Int)(l:List Int):Nat→List Int
 | 0=>l
 | k+1=>(ZO t l k).set k (max (nth (ZO t l k) k) t)
def QG(m:aT)(old:List Spn)(next:aT)(fl:List Spn)(s:Wh)(t:Int):Wh×Int:=
 if Js m s=false∨Jq m old=false∨Jq next fl=false∨next.places.length≠m.places.length then(s,6)else
 if t<s.time∨2147483648<t then(s,8)else(⟨t,N0 next fl (ZO t (chN m old s.frm t m.roads.length) m.places.length)⟩,0)
end Go.Ev
namespace Go.Ev
open Go
variable [Lib] [cn] [bS] [gV] [gW]
theorem Cm(a b lo hi:Int)(h1:lo≤a)(h2:a≤b)(h3:b≤hi):aN 0 N.ff [.t (.agg [tI a,tI b]),I lo,I hi] []=some (B true,[]):=by
 refine ax K.pG rfl ?_
 simp (disch:=omega) only[go_sem,K.ff,↓reduceIte,Nat.reduceAdd,Nat.reduceSub]
theorem Cn{m:aT}(h:m.ok):aN 0 N.gU [.t m.e] []=some (I 0,[]):=by
 refine ax K.qI rfl ?_
 have np:=h.np
 have nr:=h.nr
 have hs:=h.hs
 have rs:=h.rs
 obtain⟨places,roads⟩:=m
 simp only at np nr hs rs
 have l1:∀z0 z2 z3 z4 z5 z9 z10 z11:D,exS aN K.uf ⟨[z0,.bp 0 0,z2,z3,z4,z5,.t (.sl (places.map Place.e)),I places.length,I 0,z9,z10,z11],[.box (af ⟨places,roads⟩)]⟩=
  some (.exit 0,⟨[.und,.bp 0 0,.und,.und,.und,.und,.t (.sl (places.map Place.e)),I places.length,I places.length,.und,.und,.und],[.box (af ⟨places,roads⟩)]⟩):=by
  intro z0 z2 z3 z4 z5 z9 z10 z11
  refine b5 (fun j=>⟨[.und,.bp 0 0,.und,.und,.und,.und,.t (.sl (places.map Place.e)),I places.length,I j,.und,.und,.und],[.box (af ⟨places,roads⟩)]⟩) places.length rfl ?_ ?_ (by simp)
  · intro j hj
    have g:(places.map Place.e)[j]?=some (nth places j).e:=dz _ hj
    have q:=hs _ (aa hj)
    generalize nth places j=x at*
    obtain⟨hh,sf⟩:=x
    simp only[af]at*
    simp (disch:=omega) only[go_sem,K.nW,↓reduceIte,g,Nat.reduceAdd,Nat.reduceSub]
  · simp (disch:=omega) only[go_sem,K.nW,↓reduceIte,af,Nat.reduceAdd,Nat.reduceSub]
 have l2:∀z0 z1 z2 z3 z5 z6 z7 z8:D,exS aN K.ug ⟨[z0,z1,z2,z3,I places.length,z5,z6,z7,z8,.t (.sl (roads.map Road.e)),I roads.length,I 0],[.box (af ⟨places,roads⟩)]⟩=
  some (.exit 2,⟨[.und,.und,.und,.und,I places.length,.und,.und,.und,.und,.t (.sl (roads.map Road.e)),I roads.length,I roads.length],[.box (af ⟨places,roads⟩)]⟩):=by
  intro z0 z1 z2 z3 z5 z6 z7 z8
  refine b5 (fun j=>⟨[.und,.und,.und,.und,I places.length,.und,.und,.und,.und,.t (.sl (roads.map Road.e)),I roads.length,I j],[.box (af ⟨places,roads⟩)]⟩) roads.length rfl ?_ ?_ (by simp)
  · intro j hj
    have g:(roads.map Road.e)[j]?=some (nth roads j).e:=dz _ hj
    have q:=rs _ (aa hj)
    generalize nth roads j=x at*
    have f0:=q.f0;have f1:=q.f1;have t0:=q.t0;have t1:=q.t1;have ne:=q.ne;have l0:=q.l0;have l1:=q.l1;have a0:=q.a0;have a1:=q.a1
    have r0:=q.r0;have r1:=q.r1;have r2:=q.r2;have i0:=q.i0;have i1:=q.i1;have i2:=q.i2
    clear q
    obtain⟨frm,to,len,area,walk,closed,rl,rh,ll,lh⟩:=x
    simp only[af]at*
    have s1:=Cm rl rh 1 262144 r0 r1 r2
    have s2:=Cm ll lh (-2199023255552) 2199023255552 i0 i1 i2
    simp (disch:=omega) only[go_sem,K.nX,↓reduceIte,g,s1,s2,Nat.reduceAdd,Nat.reduceSub]
  · simp (disch:=omega) only[go_sem,K.nX,↓reduceIte,af,Nat.reduceAdd,Nat.reduceSub]
 simp only[af]at l1 l2
 simp (disch:=omega) only[go_sem,K.gU,↓reduceIte,l1,l2,Nat.reduceAdd,Nat.reduceSub]
theorem lq{m:aT}(h:m.ok):aN 0 N.dN [.t m.e] []=some (B true,[]):=by
 refine ax K.qH rfl ?_
 have c:=Cn h
 obtain⟨places,roads⟩:=m
 simp (disch:=omega) only[go_sem,K.dN,↓reduceIte,c,Nat.reduceAdd,Nat.reduceSub]
end Go.Ev
namespace Go.Ev.N
def GP:Nat:=178
def GQ:Nat:=179
def HQ:Nat:=180
def GR:Nat:=181
def HR:Nat:=182
def Jt:Nat:=183
def HT:Nat:=184
def QH:Nat:=185
def N2:Nat:=186
def QI:Nat:=187
def Ju:Nat:=188
def fg:Nat:=189
def ed:Nat:=190
def N3:Nat:=191
def S6:Nat:=192
def Mf:Nat:=193
def di:Nat:=194
def QJ:Nat:=195
def S7:Nat:=196
def Vm:Nat:=197
def KY:Nat:=198
def bW:Nat:=199
def dO:Nat:=200
def cA:Nat:=201
def aX:Nat:=202
def N4:Nat:=203
def aU:Nat:=204
def bT:Nat:=205
def QK:Nat:=206
def N5:Nat:=207
def cP:Nat:=208
def bf:Nat:=209
def bG:Nat:=210
def gI:Nat:=211
def jd:Nat:=212
def ee:Nat:=213
def gX:Nat:=214
end Go.Ev.N
namespace Go.Ev.K
open Go.Ev
def mM:C:=(.its [u (.bin .lss v11 v10)] [] 0 .skip (.exit 0) (.seq (.blk 1 (.seq (.reg [m v11,a 1 v9 v11,g l0,w 7 (.mv l2),w 8 (.mv l1)] []) (.reg [f 1 v6,g l0,m v8,f 1 v3,g l0,m v7,a 1 l1 l0,g l0,u (.mn [.l 5,.l 0]),u (.bs [.l 0] 1),u (.app l8 l0 true 1),f 1 v6,u (.st l0 l1 1 [])] [(1,10)]))) (.reg [u (.bin .add v11 (.i 1)),w 11 (.mv l0)] [])))
def rW:C:= .loop true [0,1,2,5,7,8] K.mM
def fg:Fn:={ nargs:=2,vars:=[0,1,2,3,4,5,6,7,8,24,25,26],body:=(.seq (.reg [w 2 (.bx v0 2),w 3 (.bx v1 2),w 4 (.al [.t (.int .i64 (0)),.nil] []),w 5 (.mv (.i 0))] []) (.seq (.ite [f 1 v2,g l0,u (.ln l0),f 1 v3,g l0,u (.ln l0),u (.bin .neq l3 l0)] [] 0 (.seq (.reg [u (.bd [.t (.int .i64 (0)),.nil] []),u (.st v4 l0 2 []),w 5 (.mv (.i 6))] []) .ret) .skip) (.seq (.reg [f 0 v2,g l0,f 0 v3,g l0,u (.mx [.l 2,.l 0]),u (.bd [.t (.int .i64 (0)),.nil] [(0,1,.l 0)]),w 6 (.al [.t (.int .i64 (0)),.nil] [(1,1)]),u (.st l0 l1 2 [(1,1)])] []) (.seq (.seq (.reg [f 1 v2,w 9 (.ld l0 1 false),w 10 (.ln l0),w 11 (.mv (.i 0))] []) (.blk 0 K.rW)) (.seq (.reg [h 2 v6,u (.st v4 l0 2 []),w 5 (.mv (.i 0))] []) .ret))))),res:=[(4,some (2,true)),(5,none)]}
def ed:Fn:={ nargs:=2,vars:=[0,1,2,3,4],body:=(.seq (.reg [w 2 (.bx v0 2),w 3 (.bx v1 2),w 4 (.mv (.b false))] []) (.seq (.reg [h 2 v2,u (.ca N.dN 0 [] [.l 0]),m l0,y 0 true (.ld v2 2 true),y 1 true (.ld v3 2 true),y 2 true (.ca N.cA 0 [] [.l 1,.l 0]),u (.pk l3 l0 (.b false)),m l0,y 0 true (.ld v2 2 true),y 1 true (.fa v3 1),y 2 true (.ld l0 1 false),y 3 true (.fa v3 0),y 4 true (.ld l0 1 false),y 5 true (.ca N.bW 0 [] [.l 4,.l 2,.l 0,.c (.fn N.dO [])]),y 6 true (.fa v3 1),y 7 true (.ld l0 1 false),y 8 true (.ca N.aX 0 [] [.l 2,.l 0]),u (.pk l9 l0 (.b false)),w 4 (.mv l0)] [(15,6)]) .ret)),res:=[(4,none)]}
end Go.Ev.K
namespace Go.Ev
class kt [Lib]:Prop where
 pH:Lib.fs N.fg=some K.fg
 nY:Lib.fs N.ed=some K.ed
namespace K
variable [Lib] [kt]
theorem pH:Lib.fs N.fg=some K.fg:=kt.pH
theorem nY:Lib.fs N.ed=some K.ed:=kt.nY
end K
end Go.Ev
namespace Go.Ev.K
open Go.Ev
def di:Fn:={ nargs:=3,vars:=[0,1,2,3,4,6,7],body:=(.seq (.reg [w 3 (.bx v0 2),w 4 (.bx v1 2),w 5 (.al [.t (.int .i64 (0)),.nil] []),w 6 (.mv (.i 0))] []) (.seq (.ite [h 2 v3,u (.ca N.dN 0 [] [.l 0]),u (.un .not l0),m l0,y 0 false (.ld v3 2 true),y 1 false (.ld v4 2 true),y 2 false (.ca N.cA 0 [] [.l 1,.l 0]),y 3 false (.un .not l0),u (.pk l4 (.b true) l0)] [] 0 (.seq (.reg [h 2 v4,u (.st v5 l0 2 []),w 6 (.mv (.i 6))] []) .ret) .skip) (.seq (.ite [m v2,f 0 v4,g l0,u (.bin .lss l2 l0),m l0,y 0 false (.mv v2),y 1 false (.bin .gtr l0 (.i 2147483648)),u (.pk l2 (.b true) l0)] [] 0 (.seq (.reg [h 2 v4,u (.st v5 l0 2 []),w 6 (.mv (.i 8))] []) .ret) .skip) (.seq (.reg [m v2,h 2 v3,f 1 v4,g l0,m v2,u (.ca N.bW 0 [] [.l 3,.l 1,.l 0,.c (.fn N.dO [])]),u (.bd [.t (.int .i64 (0)),.nil] [(0,1,.l 5),(1,1,.l 0)]),u (.st v5 l0 2 []),w 6 (.mv (.i 0))] []) .ret)))),res:=[(5,some (2,true)),(6,none)]}
def cJ:C:=(.seq (.ite [g v9] [] 0 .skip (.exit 0)) (.seq (.blk 1 (.seq (.reg [u (.st v9 (.b false) 1 [])] []) (.reg [h 2 v4,g v8,u (.mf N.bf [.v 5,.v 8,.v 6,.v 9]),u (.ca N.cP 0 [1] [.l 2,.l 1,.l 0])] []))) (.seq (.reg [w 10 (.ld v9 1 false)] []) (.reg [w 9 (.al [.t (.bool false)] []),u (.st l0 v10 1 [])] []))))
def kK:C:= .loop false [0,1,2,3,7,10] K.cJ
def bW:Fn:={ nargs:=4,vars:=[0,1,2,3,4,6,7,8,9,10,18],body:=(.seq (.reg [w 4 (.bx v0 2),w 5 (.bx v2 1),w 6 (.bx v3 1),w 7 (.mv (.c (.nil)))] []) (.seq (.reg [m v1,u (.ca N.aU 1 [] [.l 0]),w 8 (.al [.nil] []),u (.st l0 l1 1 [])] []) (.seq (.seq (.reg [w 9 (.al [.t (.bool false)] []),u (.st l0 (.b true) 1 [])] []) (.blk 0 K.kK)) (.seq (.reg [g v8,w 7 (.mv l0)] []) .ret)))),res:=[(7,none)]}
def dO:Fn:={ nargs:=1,vars:=[2],body:=(.seq (.reg [w 0 (.mv (.b false))] []) (.seq (.reg [w 0 (.mv (.b true))] []) .ret)),res:=[(0,none)]}
def cA:Fn:={ nargs:=2,vars:=[0,1,2,3,4],body:=(.seq (.reg [w 2 (.bx v0 2),w 3 (.bx v1 2),w 4 (.mv (.b false))] []) (.seq (.reg [f 1 v3,g l0,u (.ln l0),f 0 v2,g l0,u (.ln l0),u (.bin .eql l3 l0),m l0,y 0 true (.fa v3 0),y 1 true (.ld l0 1 false),y 2 true (.ca N.eM 0 [] [.l 0,.i 0,.i 2147483648]),u (.pk l3 l0 (.b false)),m l0,y 0 true (.fa v3 1),y 1 true (.ld l0 1 false),y 2 true (.ca N.aB 0 [] [.l 0,.c (.fn N.bG [])]),y 3 true (.un .not l0),u (.pk l4 l0 (.b false)),w 4 (.mv l0)] []) .ret)),res:=[(4,none)]}
def eu:C:=(.its [u (.bin .lss v5 v4)] [] 0 .skip (.exit 0) (.seq (.blk 1 (.seq (.reg [m v5,w 3 (.mv l0)] []) (.ite [m v0,m v3,a 1 l1 l0,g l0,m v1,m v3,a 1 l1 l0,g l0,u (.bin .neq l4 l0)] [] 0 (.seq (.reg [w 2 (.mv (.b false))] []) .ret) .skip))) (.reg [u (.bin .add v5 (.i 1)),w 5 (.mv l0)] [])))
def kc:C:= .loop true [2,3] K.eu
def aX:Fn:={ nargs:=2,vars:=[0,1,4,5,12,13],body:=(.seq (.reg [w 2 (.mv (.b false))] []) (.seq (.ite [m v0,u (.ln l0),m v1,u (.ln l0),u (.bin .neq l2 l0)] [] 0 (.seq (.reg [w 2 (.mv (.b false))] []) .ret) .skip) (.seq (.seq (.reg [m v0,w 4 (.ln l0),w 5 (.mv (.i 0))] []) (.blk 0 K.kc)) (.seq (.reg [w 2 (.mv (.b true))] []) .ret)))),res:=[(2,none)]}
def aU:Fn:={ nargs:=1,vars:=[0,2],body:=(.seq (.reg [w 1 (.mv (.c (.nil)))] []) (.itk [m v0,u (.eqk (.sl) false l0 (.c (.nil)))] [] 0 (.seq (.reg [w 1 (.nw 1)] []) .ret) .skip (.seq (.reg [u (.bsr [] 1),m v0,u (.app l1 l0 false 1),w 1 (.mv l0)] []) .ret))),res:=[(1,none)]}
def bT:Fn:={ nargs:=2,vars:=[0,1,3],body:=(.seq (.reg [w 2 (.mv (.b false))] []) (.seq (.reg [g v1,m v0,u (.ca N.aR 0 [] [.l 1,.l 0]),w 2 (.mv l0)] []) .ret)),res:=[(2,none)]}
def dP:C:=(.its [u (.bin .lss v14 (.i 2))] [] 0 .skip (.exit 2) (.seq (.blk 3 (.seq (.reg [u (.ix v13 v14 2 1 false),w 6 (.mv l0)] []) (.seq (.reg [f 0 v5,g l0,f 1 v5,g l0,w 7 (.mv l2),w 8 (.mv l1)] []) (.seq (.ite [m v6] [] 0 (.reg [m v8,m v7,w 7 (.mv l1),w 8 (.mv l1)] []) .skip) (.seq (.reg [h 2 v3,m v4,m v6,u (.ca N.gI 0 [] [.l 2,.l 1,.l 0]),w 9 (.mv l0)] []) (.ite [m v9,u (.bin .geq l0 (.i 0)),m l0,y 0 true (.mv v1),y 1 true (.mv v7),y 2 true (.ia l1 l0 1),y 3 true (.ld l0 1 false),y 4 true (.bin .lss l0 (.i 1099511627776)),u (.pk l5 l0 (.b false))] [] 0 (.reg [m v2,m v7,m v8,m v1,m v7,a 1 l1 l0,g l0,m v9,u (.bin .add l1 l0),u (.cw l8 0 [] [.l 7,.l 6,.l 0])] []) .skip)))))) (.reg [u (.bin .add v14 (.i 1)),w 14 (.mv l0)] [])))
def nj:C:= .loop true [0,6,7,8,9] K.dP
def gC:C:=(.its [u (.bin .lss v12 v11)] [] 0 .skip (.exit 0) (.seq (.blk 1 (.seq (.reg [m v12,a 10 v10 v12,h 10 l0,w 5 (.al [.t (.int .i64 (0)),.t (.int .i64 (0)),.t (.int .i64 (0)),.t (.int .i64 (0)),.t (.bool false),.t (.bool false),.t (.int .i64 (0)),.t (.int .i64 (0)),.t (.int .i64 (0)),.t (.int .i64 (0))] []),w 4 (.mv l3),u (.st l1 l2 10 [])] []) (.seq (.reg [w 13 (.bd [.t (.bool false),.t (.bool false)] [(0,1,.b false),(1,1,.b true)]),w 14 (.mv (.i 0))] []) (.blk 2 K.nj)))) (.reg [u (.bin .add v12 (.i 1)),w 12 (.mv l0)] [])))
def nq:C:= .loop true [0,4,5,6,7,8,9,13,14] K.gC
def cP:Fn:={ nargs:=3,vars:=[0,1,2,3,6,7,9,10,11,12,14,15,16,21,22],body:=(.seq (.reg [w 3 (.bx v0 2)] []) (.seq (.reg [f 1 v3,w 10 (.ld l0 1 false),w 11 (.ln l0),w 12 (.mv (.i 0))] []) (.blk 0 K.nq))),res:=[]}
def bf:Fn:={ nargs:=7,vars:=[1,2,3,4,5,6],body:=(.seq (.reg [m v1,g v2,u (.mx [.l 1,.l 0]),w 1 (.mv l0)] []) (.ite [m v1,u (.bin .leq l0 (.i 2147483648)),m l0,y 0 true (.mv v1),y 1 true (.ld v3 1 false),y 2 true (.mv v0),y 3 true (.ia l1 l0 1),y 4 true (.ld l0 1 false),y 5 true (.bin .lss l4 l0),u (.pk l6 l0 (.b false)),m l0,y 0 true (.ld v4 1 false),y 1 true (.mv v0),y 2 true (.cw l1 0 [] [.l 0]),u (.pk l3 l0 (.b false))] [] 0 (.reg [g v3,m v0,m v1,a 1 l2 l1,u (.st l0 l1 1 []),u (.st v5 (.b true) 1 [])] []) .skip)),res:=[]}
def bG:Fn:={ nargs:=1,vars:=[0,2],body:=(.seq (.reg [w 1 (.mv (.b false))] []) (.seq (.reg [m v0,u (.bin .neq l0 (.i 1099511627776)),m l0,y 0 true (.mv v0),y 1 true (.ca N.eM 0 [] [.l 0,.i 0,.i 2147483648]),y 2 true (.un .not l0),u (.pk l3 l0 (.b false)),w 1 (.mv l0)] []) .ret)),res:=[(1,none)]}
def gI:Fn:={ nargs:=3,vars:=[0,1,2,3,6],body:=(.seq (.reg [w 3 (.bx v0 2),w 4 (.mv (.i 0))] []) (.seq (.ite [h 2 v3,u (.ca N.dN 0 [] [.l 0]),u (.un .not l0),m l0,y 0 false (.mv v1),y 1 false (.bin .lss l0 (.i 0)),u (.pk l2 (.b true) l0),m l0,y 0 false (.mv v1),y 1 false (.fa v3 1),y 2 false (.ld l0 1 false),y 3 false (.ln l0),y 4 false (.bin .geq l3 l0),u (.pk l5 (.b true) l0)] [] 0 (.seq (.reg [w 4 (.mv (.i (-1)))] []) .ret) .skip) (.seq (.reg [h 2 v3,m v1,m v2,u (.ca N.jd 0 [] [.l 2,.l 1,.l 0]),w 4 (.mv l0)] []) .ret))),res:=[(4,none)]}
def jd:Fn:={ nargs:=3,vars:=[0,1,2,3,6],body:=(.seq (.reg [w 3 (.bx v0 2),w 4 (.mv (.i 0))] []) (.seq (.reg [h 2 v3,m v1,m v2,u (.ca N.gX 0 [] []),u (.ca N.ee 0 [] [.l 3,.l 2,.l 1,.l 0]),w 4 (.mv l0)] [(0,4)]) .ret)),res:=[(4,none)]}
def ee:Fn:={ nargs:=4,vars:=[0,1,2,3,4,7,8,9,10,11],body:=(.seq (.reg [w 4 (.bx v0 2),w 5 (.bx v3 3),w 6 (.mv (.i 0))] []) (.seq (.reg [f 1 v4,g l0,m v1,a 10 l1 l0,h 10 l0,w 7 (.al [.t (.int .i64 (0)),.t (.int .i64 (0)),.t (.int .i64 (0)),.t (.int .i64 (0)),.t (.bool false),.t (.bool false),.t (.int .i64 (0)),.t (.int .i64 (0)),.t (.int .i64 (0)),.t (.int .i64 (0))] []),u (.st l0 l1 10 [])] []) (.seq (.ite [f 5 v7,g l0,m l0,y 0 false (.fa v7 4),y 1 false (.ld l0 1 false),y 2 false (.un .not l0),u (.pk l3 (.b true) l0)] [] 0 (.seq (.reg [w 6 (.mv (.i (-1)))] []) .ret) .skip) (.seq (.reg [f 0 v4,g l0,f 1 v7,g l0,a 2 l2 l0,f 0 l0,g l0,f 0 v4,g l0,f 0 v7,g l0,a 2 l2 l0,f 0 l0,g l0,u (.bin .sub l7 l0),w 8 (.mv l0)] []) (.seq (.ite [m v2] [] 0 (.reg [m v8,u (.un .neg l0),w 8 (.mv l0)] []) .skip) (.seq (.reg [f 2 v5,g l0,w 9 (.mv l0)] []) (.seq (.blk 0 (.ite [m v8,u (.bin .mul (.i 10) l0),f 2 v7,g l0,u (.bin .gtr l2 l0),m l0] [] 0 (.reg [f 0 v5,g l0,w 9 (.mv l0)] []) (.ite [m v8,u (.bin .mul (.i (-10)) l0),f 2 v7,g l0,u (.bin .gtr l2 l0),m l0] [] 0 (.reg [f 1 v5,g l0,w 9 (.mv l0)] []) .skip))) (.seq (.reg [f 2 v7,g l0,u (.bin .mul (.i 10) l0),m v9,u (.bin .add l1 l0),u (.bin .sub l0 (.i 1)),m v9,u (.bin .quo l1 l0),w 6 (.mv l0)] []) .ret)))))))),res:=[(6,none)]}
def gX:Fn:={ nargs:=0,vars:=[0],body:=(.seq (.reg [w 0 (.al [.t (.int .i64 (0)),.t (.int .i64 (0)),.t (.int .i64 (0))] [])] []) (.seq (.reg [u (.bd [.t (.int .i64 (0)),.t (.int .i64 (0)),.t (.int .i64 (0))] [(0,1,.i 6),(1,1,.i 9),(2,1,.i 12)]),u (.st v0 l0 3 [])] []) .ret)),res:=[(0,some (3,true))]}
end Go.Ev.K
namespace Go.Ev
class iJ [Lib]:Prop where
 nZ:Lib.fs N.di=some K.di
 jw:Lib.fs N.bW=some K.bW
 qJ:Lib.fs N.dO=some K.dO
 mN:Lib.fs N.cA=some K.cA
 gZ:Lib.fs N.aX=some K.aX
 hU:Lib.fs N.aU=some K.aU
 kL:Lib.fs N.bT=some K.bT
 kM:Lib.fs N.cP=some K.cP
 kd:Lib.fs N.bf=some K.bf
 kN:Lib.fs N.bG=some K.bG
 sN:Lib.fs N.gI=some K.gI
 sO:Lib.fs N.jd=some K.jd
 sP:Lib.fs N.ee=some K.ee
 qK:Lib.fs N.gX=some K.gX
namespace K
variable [Lib] [iJ]
theorem nZ:Lib.fs N.di=some K.di:=iJ.nZ
theorem jw:Lib.fs N.bW=some K.bW:=iJ.jw
theorem qJ:Lib.fs N.dO=some K.dO:=iJ.qJ
theorem mN:Lib.fs N.cA=some K.cA:=iJ.mN
theorem gZ:Lib.fs N.aX=some K.aX:=iJ.gZ
theorem hU:Lib.fs N.aU=some K.aU:=iJ.hU
theorem kL:Lib.fs N.bT=some K.bT:=iJ.kL
theorem kM:Lib.fs N.cP=some K.cP:=iJ.kM
theorem kd:Lib.fs N.bf=some K.bf:=iJ.kd
theorem kN:Lib.fs N.bG=some K.bG:=iJ.kN
theorem sN:Lib.fs N.gI=some K.gI:=iJ.sN
theorem sO:Lib.fs N.jd=some K.jd:=iJ.sO
theorem sP:Lib.fs N.ee=some K.ee:=iJ.sP
theorem qK:Lib.fs N.gX=some K.gX:=iJ.qK
end K
end Go.Ev
namespace Go.Ev
open Go
variable [Lib] [cn] [bS] [gV] [gW] [kt] [iJ]
abbrev Dj(l:List Int):Obj:= .arr 1 false 0 ((l.map (T.int .i64)).map .t)
theorem yf(l:List Int)(hl:l.length≤1000000):aN 1 N.aU [.t (tL l)] []=some (.ref 0 0 l.length,[Dj l]):=by
 refine ax K.hU rfl ?_
 by_cases h0:l=[]
 · subst h0
   simp only[tL,List.map_nil]
   simp (disch:=omega) only[go_sem,K.aU,↓reduceIte,List.map_nil,List.length_nil,Nat.reduceAdd,Nat.reduceSub]
   rfl
 · have e:=fun H=>xa H (l.map (T.int .i64)) (by simpa using h0)
   simp (disch:=omega) only[go_sem,K.aU,↓reduceIte,e,Nat.reduceAdd,Nat.reduceSub]
theorem xi(a b:List Int)(hl:a.length≤4294967296)(hl2:b.length≤4294967296):aN 0 N.aX [.t (tL a),.t (tL b)] []=some (B (decide (a=b)),[]):=by
 refine ax K.gZ rfl ?_
 by_cases hlen:a.length=b.length
 · have loop:∀z2 z3:D,exS aN K.kc ⟨[.t (tL a),.t (tL b),z2,z3,I a.length,I 0],[]⟩=
    some (match (List.range a.length).find? (fun j=>decide (nth a j≠nth b j))with
     | some j=>(.ret,⟨[.t (tL a),.t (tL b),B false,I j,I a.length,I j],[]⟩)
     | none=>(.exit 0,⟨[.t (tL a),.t (tL b),.und,.und,I a.length,I a.length],[]⟩)):=by
    intro z2 z3
    refine b7 (fun j=>⟨[.t (tL a),.t (tL b),.und,.und,I a.length,I j],[]⟩) a.length (fun j=>decide (nth a j≠nth b j)) _ _ rfl ?_ ?_ ?_ (by simp)
    · intro j hj hp
      have hp:nth a j=nth b j:=by simpa using hp
      simp (disch:=omega) only[go_sem,K.eu,↓reduceIte,Nat.reduceAdd,Nat.reduceSub]
    · intro j hj hp
      have hp:nth a j≠nth b j:=by simpa using hp
      simp (disch:=omega) only[go_sem,K.eu,↓reduceIte,Nat.reduceAdd,Nat.reduceSub]
      simp
    · simp (disch:=omega) only[go_sem,K.eu,↓reduceIte,Nat.reduceAdd,Nat.reduceSub]
   have e:(a=b)↔(List.range a.length).find? (fun j=>decide (nth a j≠nth b j))=none:=by
    rw[List.find?_eq_none]
    constructor
    · intro h j _;simp[h]
    · intro h
      apply List.ext_getElem?
      intro j
      by_cases hj:j<a.length
      · rw[jv hj,jv (by omega)]
        have:=h j (List.mem_range.2 hj)
        simpa using this
      · rw[List.getElem?_eq_none (by omega),List.getElem?_eq_none (by omega)]
   cases hf:(List.range a.length).find? (fun j=>decide (nth a j≠nth b j))with
   | some j=>
     rw[hf]at e loop
     have e:¬a=b:=fun h=>by have:=e.1 h;cases this
     simp (disch:=omega) only[go_sem,K.aX,↓reduceIte,loop,e,decide_false,Nat.reduceAdd,Nat.reduceSub]
   | none=>
     rw[hf]at e loop
     have e:a=b:=e.2 rfl
     simp (disch:=omega) only[go_sem,K.aX,↓reduceIte,loop,decide_eq_true e,Nat.reduceAdd,Nat.reduceSub]
 · have hne:a≠b:=fun h=>hlen (by rw[h])
   simp (disch:=omega) only[go_sem,K.aX,↓reduceIte,hne,decide_false,Nat.reduceAdd,Nat.reduceSub]
theorem Mg:aN 0 N.gX [] []=some (.t (.agg [tI 6,tI 9,tI 12]),[]):=by
 refine ax K.qK rfl ?_
 simp (disch:=omega) only[go_sem,K.gX,↓reduceIte,Nat.reduceAdd,Nat.reduceSub]
theorem QL{m:aT}(h:m.ok)(k:Nat)(hk:k<m.roads.length)(back:Bool)(up down level:Int)(hu:1≤up)(hu2:up≤100)(hd:1≤down)(hd2:down≤100)(hl:1≤level)(hl2:level≤100):
 aN 0 N.ee [.t m.e,I k,B back,.t (.agg [tI up,tI down,tI level])] []=some (I (eX m k back up down level),[]):=by
 refine ax K.sP rfl ?_
 have nr:=h.nr
 have np:=h.np
 obtain⟨f0,f1,t0,t1, -,l0,l1, -, -, -, -, -, -, -, -⟩:=h.rs _ (aa hk)
 have b1:=h.hs _ (aa (l:=m.places) (j:=(nth m.roads k).frm.toNat) (by omega))
 have b2:=h.hs _ (aa (l:=m.places) (j:=(nth m.roads k).to.toNat) (by omega))
 have g:(m.roads.map Road.e)[k]?=some (nth m.roads k).e:=dz _ hk
 have p1:(m.places.map Place.e)[(nth m.roads k).frm.toNat]?=some (nth m.places (nth m.roads k).frm.toNat).e:=dz _ (by omega)
 have p2:(m.places.map Place.e)[(nth m.roads k).to.toNat]?=some (nth m.places (nth m.roads k).to.toNat).e:=dz _ (by omega)
 have key:∀h1 h2:Int, -10000≤h1→h1≤10000→ -10000≤h2→h2≤10000→IntKind.i64.wrap (h1-h2)=h1-h2∧IntKind.i64.wrap (-(h1-h2))=h2-h1:=fun h1 h2 _ _ _ _=>⟨uW (by omega) (by omega),by rw[uW (by omega) (by omega)];omega⟩
 unfold eX
 generalize nth m.roads k=x at*
 obtain⟨frm,to,len,area,walk,closed,rl,rh,ll,lh⟩:=x
 simp only at f0 f1 t0 t1 l0 l1 b1 b2 p1 p2 ⊢
 cases closed with
 | true=>
   obtain⟨places,roads⟩:=m
   simp (disch:=omega) only[go_sem,K.ee,↓reduceIte,g,Nat.reduceAdd,Nat.reduceSub]
 | false=>
   cases walk with
   | false=>
     obtain⟨places,roads⟩:=m
     simp (disch:=omega) only[go_sem,K.ee,↓reduceIte,g,Nat.reduceAdd,Nat.reduceSub]
   | true=>
     have g1:=sJ (a:=10*len+up-1) (b:=up) (by omega) hu
     have g2:=sJ (a:=10*len+down-1) (b:=down) (by omega) hd
     have g3:=sJ (a:=10*len+level-1) (b:=level) (by omega) hl
     cases back with
     | true=>
       simp only[↓reduceIte]
       generalize nth m.places frm.toNat=q1 at*
       generalize nth m.places to.toNat=q2 at*
       obtain⟨h1,s1⟩:=q1
       obtain⟨h2,s2⟩:=q2
       obtain⟨places,roads⟩:=m
       simp only at*
       obtain⟨w2,w3⟩:=key h2 h1 (by omega) (by omega) (by omega) (by omega)
       by_cases c2:len< -10*(h1-h2)
       · simp (disch:=omega) only[go_sem,K.ee,↓reduceIte,g,p1,p2,w2,w3,gt_iff_lt,Int.zero_sub,Nat.reduceAdd,Nat.reduceSub]
       · by_cases c1:len<10*(h1-h2)
         · simp (disch:=omega) only[go_sem,K.ee,↓reduceIte,g,p1,p2,w2,w3,gt_iff_lt,Int.zero_sub,Nat.reduceAdd,Nat.reduceSub]
         · simp (disch:=omega) only[go_sem,K.ee,↓reduceIte,g,p1,p2,w2,w3,gt_iff_lt,Int.zero_sub,Nat.reduceAdd,Nat.reduceSub]
     | false=>
       simp only[Bool.false_eq_true,↓reduceIte]
       generalize nth m.places frm.toNat=q1 at*
       generalize nth m.places to.toNat=q2 at*
       obtain⟨h1,s1⟩:=q1
       obtain⟨h2,s2⟩:=q2
       obtain⟨places,roads⟩:=m
       simp only at*
       obtain⟨w2,w3⟩:=key h2 h1 (by omega) (by omega) (by omega) (by omega)
       by_cases c2:len< -10*(h2-h1)
       · simp (disch:=omega) only[go_sem,K.ee,↓reduceIte,g,p1,p2,w2,gt_iff_lt,Nat.reduceAdd,Nat.reduceSub]
       · by_cases c1:len<10*(h2-h1)
         · simp (disch:=omega) only[go_sem,K.ee,↓reduceIte,g,p1,p2,w2,gt_iff_lt,Nat.reduceAdd,Nat.reduceSub]
         · simp (disch:=omega) only[go_sem,K.ee,↓reduceIte,g,p1,p2,w2,gt_iff_lt,Nat.reduceAdd,Nat.reduceSub]
theorem Mh{m:aT}(h:m.ok)(k:Nat)(hk:k<m.roads.length)(back:Bool):aN 0 N.gI [.t m.e,I k,B back] []=some (I (eX m k back 6 9 12),[]):=by
 have q:=Mg
 have w:=QL h k hk back 6 9 12 (by omega) (by omega) (by omega) (by omega) (by omega) (by omega)
 have v:=lq h
 have nr:=h.nr
 have s:aN 0 N.jd [.t m.e,I k,B back] []=some (I (eX m k back 6 9 12),[]):=by
  refine ax K.sO rfl ?_
  generalize eX m k back 6 9 12=r at*
  obtain⟨places,roads⟩:=m
  simp (disch:=omega) only[go_sem,K.jd,↓reduceIte,q,w,Nat.reduceAdd,Nat.reduceSub]
 refine ax K.sN rfl ?_
 generalize eX m k back 6 9 12=r at*
 obtain⟨places,roads⟩:=m
 simp only at*
 simp (disch:=omega) only[go_sem,K.gI,↓reduceIte,v,s,Nat.reduceAdd,Nat.reduceSub]
theorem QM(q:Int):aN 0 N.dO [I q] []=some (B true,[]):=by
 refine ax K.qJ rfl ?_
 simp (disch:=omega) only[go_sem,K.dO,↓reduceIte,Nat.reduceAdd,Nat.reduceSub]
theorem Mi(q:Int)(l:List Int)(hl:l.length≤4294967296):aN 0 N.bT [I q,.bp 0 0] [.box [.t (tL l)]]=some (B (decide (q∈l)),[.box [.t (tL l)]]):=by
 refine ax K.kL rfl ?_
 have c:=D2 l q hl
 simp (disch:=omega) only[go_sem,K.bT,↓reduceIte,c,Nat.reduceAdd,Nat.reduceSub]
def smE(into:Option (List Int)):aj:=match into with
 | none=>[]
 | some s=>[.box [.t (tL s)]]
def smD(into:Option (List Int)):D:=match into with
 | none=> .fn N.dO []
 | some _=> .fn N.bT [.bp 5 0]
def smK(into:Option (List Int)):Nat:=match into with
 | none=>5
 | some _=>6
@[go_sem] theorem aaI (H : aj) (len j : Nat) (ts : List T) (h : j < len) : Yj H len 1 false (.t (.agg ts)) j = (ts[j]?).map fun t => (.t t, H) := by
 have h0:len≠0:=by omega
 unfold Yj Bu
 rw[if_neg h0,if_pos h]
 unfold xn cut
 simp only[D.isAgg,D.cells,T.cells,if_true,Nat.mul_one,List.length_map]
 by_cases hj:j<ts.length
 · rw[if_pos (by omega),List.getElem?_eq_getElem hj]
   have e:((ts.map D.t).drop j).take 1=[D.t ts[j]]:=by
    rw[List.drop_eq_getElem_cons (by simpa using hj)];simp
   rw[e];rfl
 · rw[if_neg (by omega),List.getElem?_eq_none (by omega)];rfl
def Jv(into:Option (List Int))(l:List Int)(q:Nat)(x:Int):Bool:=decide (x≤2147483648∧x<nth l q)&&Ja into q
theorem QN(into:Option (List Int))(hi:∀s,into=some s→s.length≤64)(l:List Int)(hl:l.length≤64)(hb:bnd l)(p:Int)(q:Nat)(hq:q<l.length)(n t:Int)(ch:Bool):
 aN 0 N.bf [I p,I q,I n,.bp 0 0,.bp 1 0,.bp 2 0,.bp 3 0] (.box [I t]:: .box [.ref 4 0 l.length]:: .box [smD into]:: .box [B ch]::Dj l::smE into)=
  some (.tup [],if Jv into l q (max n t)=true then .box [I t]:: .box [.ref 4 0 l.length]:: .box [smD into]:: .box [B true]::Dj (l.set q (max n t))::smE into
   else .box [I t]:: .box [.ref 4 0 l.length]:: .box [smD into]:: .box [B ch]::Dj l::smE into):=by
 refine ax K.kd rfl ?_
 have ln:(l.set q (max n t)).length=l.length:=List.length_set ..
 have a:=QM q
 have b:=hb _ (aa hq)
 unfold Jv
 cases into with
 | none=>
   simp only[smE,smD,Ja,Bool.and_true,decide_eq_true_eq]
   by_cases c1:max n t≤2147483648
   · by_cases c2:max n t<nth l q
     · simp (disch:=omega) only[go_sem,K.bf,↓reduceIte,a,c1,c2,and_self,Nat.reduceAdd,Nat.reduceSub]
     · simp (disch:=omega) only[go_sem,K.bf,↓reduceIte,c1,c2,and_false,Nat.reduceAdd,Nat.reduceSub]
   · simp (disch:=omega) only[go_sem,K.bf,↓reduceIte,c1,false_and,Nat.reduceAdd,Nat.reduceSub]
 | some s=>
   have a2:=Mi q s (by have:=hi s rfl;omega)
   simp only[smE,smD,Ja]
   by_cases c1:max n t≤2147483648
   · by_cases c2:max n t<nth l q
     · by_cases c3:(q:Int)∈s
       · simp only[c3,decide_true]at a2
         simp (disch:=omega) only[go_sem,K.bf,↓reduceIte,a2,c1,c2,c3,and_self,decide_true,Bool.and_true,Nat.reduceAdd,Nat.reduceSub]
       · simp only[c3,decide_false]at a2
         simp (disch:=omega) only[go_sem,K.bf,↓reduceIte,a2,c1,c2,c3,and_self,decide_false,Bool.and_false,Nat.reduceAdd,Nat.reduceSub]
     · simp (disch:=omega) only[go_sem,K.bf,↓reduceIte,c1,c2,and_false,decide_false,Bool.false_and,Nat.reduceAdd,Nat.reduceSub]
   · simp (disch:=omega) only[go_sem,K.bf,↓reduceIte,c1,false_and,decide_false,Bool.false_and,Nat.reduceAdd,Nat.reduceSub]
theorem Mj{m:aT}(h:m.ok)(t:Int)(into:Option (List Int)){k:Nat}(hk:k<m.roads.length)(back:Bool)(l:List Int):
 eH m t into k back l=if 0≤eX m k back 6 9 12∧nth l ((nth m.roads k).src back).toNat<1099511627776∧Jv into l ((nth m.roads k).dst back).toNat (max (nth l ((nth m.roads k).src back).toNat+eX m k back 6 9 12) t)=true
  then(l.set ((nth m.roads k).dst back).toNat (max (nth l ((nth m.roads k).src back).toNat+eX m k back 6 9 12) t),true)else(l,false):=by
 have r2:=Road.zv (h.rs _ (aa hk)) back
 unfold eH Jv mI lQ
 have e:(((nth m.roads k).dst back).toNat:Int)=(nth m.roads k).dst back:=by omega
 rw[e]
 generalize (nth m.roads k).dst back=d at*
 generalize ((nth m.roads k).src back).toNat=s at*
 generalize eX m k back 6 9 12=v at*
 rw[Int.max_comm t]
 generalize max (nth l s+v) t=x at*
 cases Ja into d with
 | false=>simp
 | true=>
   simp only[↓reduceIte,Bool.and_true,Bool.and_eq_true,decide_eq_true_eq]
   by_cases c:((0≤v∧nth l s<1099511627776)∧x≤2147483648)∧x<nth l d.toNat
   · obtain⟨⟨⟨c1,c2⟩,c3⟩,c4⟩:=c
     simp[c1,c2,c3,c4]
   · have c':¬(0≤v∧nth l s<1099511627776∧x≤2147483648∧x<nth l d.toNat):=fun h=>c ⟨⟨⟨h.1,h.2.1⟩,h.2.2.1⟩,h.2.2.2⟩
     rw[if_neg c,if_neg c']
     simp only[Prod.mk.injEq,true_and]
     have:(decide (0≤v)&&decide (nth l s<1099511627776)&&decide (x≤2147483648)&&decide (x<nth l d.toNat))=false:=by
      rw[Bool.eq_false_iff];intro h;simp only[Bool.and_eq_true,decide_eq_true_eq]at h;exact c h
     exact this
abbrev Jw:D:= .fn N.bf [.bp 1 0,.bp 2 0,.bp 3 0,.bp 4 0]
abbrev yg(into:Option (List Int))(t:Int)(s:List Int×Bool):aj:=Dj s.1:: .box [I t]:: .box [.ref 0 0 s.1.length]:: .box [smD into]:: .box [B s.2]::smE into
abbrev vj(x:Road):List D:=[I x.frm,I x.to,I x.len,I x.area,B x.walk,B x.closed,I x.restL,I x.restH,I x.liftL,I x.liftH]
theorem zD{m:aT}(h:m.ok)(t:Int)(ht:0≤t)(ht2:t≤1000000000000)(into:Option (List Int))(hi:∀s,into=some s→s.length≤64)(l:List Int)(hl:l.length=m.places.length)(hb:bnd l)(ch:Bool){k:Nat}(hk:k<m.roads.length)(back:Bool):
 fJ true [0,6,7,8,9] (yg into t (l,ch)++[Obj.box (af m),Obj.box (vj (nth m.roads k))]).length (exS aN K.dP ⟨[.und,.ref 0 0 l.length,Jw,.bp (smK into) 0,I k,.bp (smK into+1) 0,.und,.und,.und,.und,.t (.sl (m.roads.map Road.e)),I m.roads.length,I k,.t (.agg [.bool false,.bool true]),I (if back then 1 else 0:Nat)],yg into t (l,ch)++[.box (af m),.box (vj (nth m.roads k))]⟩)=
  some ⟨[.und,.ref 0 0 l.length,Jw,.bp (smK into) 0,I k,.bp (smK into+1) 0,.und,.und,.und,.und,.t (.sl (m.roads.map Road.e)),I m.roads.length,I k,.t (.agg [.bool false,.bool true]),I ((if back then 1 else 0:Nat)+1)],yg into t ((eH m t into k back l).1,ch||(eH m t into k back l).2)++[.box (af m),.box (vj (nth m.roads k))]⟩:=by
 have np:=h.np
 have nr:=h.nr
 have ok:=h.rs _ (aa hk)
 have r1:=Road.vH ok back
 have r2:=Road.zv ok back
 have wt:=Mh h k hk back
 have wl:=Ay h k hk back
 have b1:=hb _ (aa (l:=l) (j:=((nth m.roads k).src back).toNat) (by omega))
 have lo:=QN into hi l (by omega) hb ((nth m.roads k).src back) ((nth m.roads k).dst back).toNat (by omega) (nth l ((nth m.roads k).src back).toNat+eX m k back 6 9 12) t ch
 have e:(((nth m.roads k).dst back).toNat:Int)=(nth m.roads k).dst back:=by omega
 rw[e]at lo
 rw[Mj h t into hk back l]
 have ls:∀x,(l.set ((nth m.roads k).dst back).toNat x).length=l.length:=fun x=>List.length_set ..
 generalize eX m k back 6 9 12=v at*
 generalize hx:nth m.roads k=x at*
 clear hx ok
 obtain⟨frm,to,len,area,walk,closed,rl,rh,ll,lh⟩:=x
 obtain⟨places,roads⟩:=m
 simp only at hl np nr hk
 have h01:(1:Int)=0+1:=rfl
 by_cases c1:0≤v
 · by_cases c2:nth l ((Road.mk frm to len area walk closed rl rh ll lh).src back).toNat<1099511627776
   · cases c3:Jv into l ((Road.mk frm to len area walk closed rl rh ll lh).dst back).toNat (max (nth l ((Road.mk frm to len area walk closed rl rh ll lh).src back).toNat+v) t)<;>
     cases back<;>simp only[Road.src,Road.dst,Bool.false_eq_true,↓reduceIte]at* <;>simp only[c1,c2,c3,and_true,true_and,and_self,and_false,Bool.false_eq_true,↓reduceIte]at lo ⊢ <;>
     cases into<;>simp only[smE,smD,smK,af,vj,yg,List.cons_append,List.nil_append]at* <;>
     simp (disch:=omega) only[go_sem,K.dP,↓reduceIte,wt,lo,c1,c2,ls,Bool.or_true,Bool.or_false,Nat.reduceAdd,Nat.reduceSub]
   · cases back<;>simp only[Road.src,Road.dst,Bool.false_eq_true,↓reduceIte]at* <;>simp only[c1,c2,false_and,and_false,↓reduceIte]<;>
     cases into<;>simp only[smE,smD,smK,af,vj,yg,List.cons_append,List.nil_append]at* <;>
     simp (disch:=omega) only[go_sem,K.dP,↓reduceIte,wt,c1,c2,Bool.or_false,Nat.reduceAdd,Nat.reduceSub]
 · cases back<;>simp only[Road.src,Road.dst,Bool.false_eq_true,↓reduceIte]at* <;>simp only[c1,false_and,↓reduceIte]<;>
   cases into<;>simp only[smE,smD,smK,af,vj,yg,List.cons_append,List.nil_append]at* <;>
   simp (disch:=omega) only[go_sem,K.dP,↓reduceIte,wt,c1,Bool.or_false,Nat.reduceAdd,Nat.reduceSub]
theorem Mk{m:aT}(h:m.ok)(t:Int)(ht:0≤t)(ht2:t≤1000000000000)(into:Option (List Int))(hi:∀s,into=some s→s.length≤64)(l:List Int)(hl:l.length=m.places.length)(hb:bnd l)(ch:Bool){k:Nat}(hk:k<m.roads.length):
 fJ true [0,4,5,6,7,8,9,13,14] (yg into t (l,ch)++[Obj.box (af m)]).length (exS aN K.gC ⟨[.und,.ref 0 0 l.length,Jw,.bp (smK into) 0,.und,.und,.und,.und,.und,.und,.t (.sl (m.roads.map Road.e)),I m.roads.length,I k,.und,.und],yg into t (l,ch)++[.box (af m)]⟩)=
  some ⟨[.und,.ref 0 0 (sK m t into k (l,ch)).1.length,Jw,.bp (smK into) 0,.und,.und,.und,.und,.und,.und,.t (.sl (m.roads.map Road.e)),I m.roads.length,I (k+1),.und,.und],yg into t (sK m t into k (l,ch))++[.box (af m)]⟩:=by
 have nr:=h.nr
 have g:(m.roads.map Road.e)[k]?=some (nth m.roads k).e:=dz _ hk
 have h1:=zD h t ht ht2 into hi l hl hb ch hk false
 have l1:(eH m t into k false l).1.length=l.length:=oG ..
 have l2:(eH m t into k true (eH m t into k false l).1).1.length=l.length:=by rw[oG,l1]
 have h2:=zD h t ht ht2 into hi (eH m t into k false l).1 (by omega) (qG h hl hb hk false) (ch||(eH m t into k false l).2) hk true
 have st:sK m t into k (l,ch)=((eH m t into k true (eH m t into k false l).1).1,ch||(eH m t into k false l).2||(eH m t into k true (eH m t into k false l).1).2):=rfl
 rw[st]
 simp only[l1,l2,Bool.false_eq_true,↓reduceIte]at h1 h2 ⊢
 have inner:∀z0 z6 z7 z8 z9:D,exS aN K.nj ⟨[z0,.ref 0 0 l.length,Jw,.bp (smK into) 0,I k,.bp (smK into+1) 0,z6,z7,z8,z9,.t (.sl (m.roads.map Road.e)),I m.roads.length,I k,.t (.agg [.bool false,.bool true]),I 0],yg into t (l,ch)++[.box (af m),.box (vj (nth m.roads k))]⟩=
  some (.exit 2,⟨[.und,.ref 0 0 l.length,Jw,.bp (smK into) 0,I k,.bp (smK into+1) 0,.und,.und,.und,.und,.t (.sl (m.roads.map Road.e)),I m.roads.length,I k,.t (.agg [.bool false,.bool true]),I 2],
   yg into t ((eH m t into k true (eH m t into k false l).1).1,ch||(eH m t into k false l).2||(eH m t into k true (eH m t into k false l).1).2)++[.box (af m),.box (vj (nth m.roads k))]⟩):=by
  intro z0 z6 z7 z8 z9
  refine b5 (fun j=>⟨[.und,.ref 0 0 l.length,Jw,.bp (smK into) 0,I k,.bp (smK into+1) 0,.und,.und,.und,.und,.t (.sl (m.roads.map Road.e)),I m.roads.length,I k,.t (.agg [.bool false,.bool true]),I j],
   yg into t (match j with | 0=>(l,ch) | 1=>((eH m t into k false l).1,ch||(eH m t into k false l).2) | _=>((eH m t into k true (eH m t into k false l).1).1,ch||(eH m t into k false l).2||(eH m t into k true (eH m t into k false l).1).2))++[.box (af m),.box (vj (nth m.roads k))]⟩) 2 rfl ?_ ?_ (by simp)
  · intro j hj
    have hj2:j=0∨j=1:=by omega
    rcases hj2 with rfl | rfl
    · exact h1
    · exact h2
  · clear h1 h2
    cases into<;>simp only[smE,smD,smK,af,vj,yg,List.cons_append,List.nil_append]<;>
    simp (disch:=omega) only[go_sem,K.dP,↓reduceIte,Nat.reduceAdd,Nat.reduceSub]
 clear h1 h2 st
 generalize eH m t into k true (eH m t into k false l).1=b2 at*
 generalize eH m t into k false l=b1 at*
 generalize hx:nth m.roads k=x at*
 clear hx
 obtain⟨frm,to,len,area,walk,closed,rl,rh,ll,lh⟩:=x
 obtain⟨places,roads⟩:=m
 simp only at nr hk
 cases into<;>simp only[smE,smD,smK,af,vj,yg,List.cons_append,List.nil_append]at* <;>
 simp (disch:=omega) only[go_sem,K.gC,↓reduceIte,g,inner,l2,Nat.reduceAdd,Nat.reduceSub]
theorem D8{m:aT}(h:m.ok)(t:Int)(ht:0≤t)(ht2:t≤1000000000000)(into:Option (List Int))(hi:∀s,into=some s→s.length≤64)(l:List Int)(hl:l.length=m.places.length)(hb:bnd l)(ch:Bool):
 aN 0 N.cP [.t m.e,.ref 0 0 l.length,Jw] (yg into t (l,ch))=some (.tup [],yg into t ((cU m t into l).1,ch||(cU m t into l).2)):=by
 refine ax K.kM rfl ?_
 have nr:=h.nr
 have ls:=fun k=>dg m t into l k
 have loop:∀z0 z4 z5 z6 z7 z8 z9 z13 z14:D,exS aN K.nq ⟨[z0,.ref 0 0 l.length,Jw,.bp (smK into) 0,z4,z5,z6,z7,z8,z9,.t (.sl (m.roads.map Road.e)),I m.roads.length,I 0,z13,z14],yg into t (l,ch)++[.box (af m)]⟩=
  some (.exit 0,⟨[.und,.ref 0 0 l.length,Jw,.bp (smK into) 0,.und,.und,.und,.und,.und,.und,.t (.sl (m.roads.map Road.e)),I m.roads.length,I m.roads.length,.und,.und],yg into t ((cU m t into l).1,ch||(cU m t into l).2)++[.box (af m)]⟩):=by
  intro z0 z4 z5 z6 z7 z8 z9 z13 z14
  refine b5 (fun j=>⟨[.und,.ref 0 0 l.length,Jw,.bp (smK into) 0,.und,.und,.und,.und,.und,.und,.t (.sl (m.roads.map Road.e)),I m.roads.length,I j,.und,.und],yg into t ((et m t into l j).1,ch||(et m t into l j).2)++[.box (af m)]⟩) m.roads.length ?_ ?_ ?_ (by simp)
  · simp only[et,Bool.or_false];rfl
  · intro j hj
    have r:=Mk h t ht ht2 into hi (et m t into l j).1 (by rw[ls,hl]) (gS h hl hb j (by omega)) (ch||(et m t into l j).2) hj
    have e:sK m t into j ((et m t into l j).1,ch||(et m t into l j).2)=((et m t into l (j+1)).1,ch||(et m t into l (j+1)).2):=by
     simp only[et,sK,Bool.or_assoc]
    rw[e]at r
    simp only[ls]at r
    exact r
  · clear ls
    cases into<;>simp only[smE,smD,smK,af,vj,yg,List.cons_append,List.nil_append]<;>
    simp (disch:=omega) only[go_sem,K.gC,↓reduceIte,cU,Nat.reduceAdd,Nat.reduceSub]
 have l2:(cU m t into l).1.length=l.length:=by unfold cU;rw[ls]
 clear ls
 generalize cU m t into l=r at*
 obtain⟨r1,r2⟩:=r
 obtain⟨places,roads⟩:=m
 simp only at nr hl l2
 cases into<;>simp only[smE,smD,smK,af,vj,yg,List.cons_append,List.nil_append]at* <;>
 simp (disch:=omega) only[go_sem,K.cP,↓reduceIte,loop,l2,Nat.reduceAdd,Nat.reduceSub]
section
variable (a0 a1 a2 a3 a4 a5 x y : Obj) (ds : aj)
theorem N6:(a0::a1::a2::a3::a4::(ds++[x]))[ds.length+5]?=some x:=by simp
theorem Vn:(a0::a1::a2::a3::a4::(ds++[x])).set (ds.length+5) y=a0::a1::a2::a3::a4::(ds++[y]):=by simp
theorem N7:(a0::a1::a2::a3::a4::a5::(ds++[x]))[ds.length+6]?=some x:=by simp
theorem Vo:(a0::a1::a2::a3::a4::a5::(ds++[x])).set (ds.length+6) y=a0::a1::a2::a3::a4::a5::(ds++[y]):=by simp
theorem N8(u:Obj):(ds++[u]++[x])[ds.length+1]?=some x:=by simp
theorem QO(u:Obj):(a0::a1::a2::a3::a4::(ds++[u]++[x])).set (ds.length+1+1+1+1+1+1) y=a0::a1::a2::a3::a4::(ds++[u]++[y]):=by simp
theorem QP(u:Obj):(a0::a1::a2::a3::a4::a5::(ds++[u]++[x])).set (ds.length+1+1+1+1+1+1+1) y=a0::a1::a2::a3::a4::a5::(ds++[u]++[y]):=by simp
theorem Vp:(ds++[x]).length=ds.length+1:=by simp
end
@[go_sem] theorem Xz (n : Nat) : eqB n n = true := by
 induction n with
 | zero=>rfl
 | succ n ih=>exact ih
abbrev N9(m:aT)(into:Option (List Int))(t:Int)(l:List Int)(ds:aj)(c:Bool):aj:=match into with
 | none=> .box (af m):: .box [I t]:: .box [.fn N.dO []]::Dj l:: .box [.ref 3 0 l.length]::(ds++[.box [B c]])
 | some s=> .box [.t (tL s)]:: .box (af m):: .box [I t]:: .box [.fn N.bT [.bp 0 0]]::Dj l:: .box [.ref 4 0 l.length]::(ds++[.box [B c]])
abbrev D9(m:aT)(into:Option (List Int))(t:Int)(l:List Int)(ds:aj)(c:Bool):St:=match into with
 | none=>⟨[.und,.und,.und,.und,.bp 0 0,.bp 1 0,.bp 2 0,.und,.bp 4 0,.bp (ds.length+5) 0,.und],N9 m none t l ds c⟩
 | some s=>⟨[.und,.und,.und,.und,.bp 1 0,.bp 2 0,.bp 3 0,.und,.bp 5 0,.bp (ds.length+6) 0,.und],N9 m (some s) t l ds c⟩
theorem Jx{m:aT}(h:m.ok)(t:Int)(ht:0≤t)(ht2:t≤1000000000000)(into:Option (List Int))(hi:∀s,into=some s→s.length≤64)(l:List Int)(hl:l.length=m.places.length)(hb:bnd l)(ds:aj)(k:Nat):
 fJ false [0,1,2,3,7,10] k (exS aN K.cJ (D9 m into t l ds true))=some (D9 m into t (cU m t into l).1 (ds++[.box [B (cU m t into l).2]]) (cU m t into l).2):=by
 have nr:=h.nr
 have ar:=D8 h t ht ht2 into hi l hl hb false
 have l2:(cU m t into l).1.length=l.length:=by unfold cU;rw[dg]
 cases into with
 | none=>
   generalize cU m t none l=r at*
   obtain⟨r1,r2⟩:=r
   obtain⟨places,roads⟩:=m
   simp only[N9,D9,yg,smE,smD,af,Bool.false_or]at*
   simp (disch:=omega) only[go_sem,K.cJ,↓reduceIte,ar,N6,Vn,Vp,l2,N8,QO,Nat.reduceAdd,Nat.reduceSub]
 | some s=>
   generalize cU m t (some s) l=r at*
   obtain⟨r1,r2⟩:=r
   obtain⟨places,roads⟩:=m
   simp only[N9,D9,yg,smE,smD,af,Bool.false_or]at*
   simp (disch:=omega) only[go_sem,K.cJ,↓reduceIte,ar,N7,Vo,Vp,l2,N8,QP,Nat.reduceAdd,Nat.reduceSub]
theorem Ml(m:aT)(into:Option (List Int))(t:Int)(l:List Int)(ds:aj):exS aN K.cJ (D9 m into t l ds false)=some (.exit 0,D9 m into t l ds false):=by
 obtain⟨places,roads⟩:=m
 cases into with
 | none=>
   simp only[N9,D9,af]
   simp (disch:=omega) only[go_sem,K.cJ,↓reduceIte,N6,Nat.reduceAdd,Nat.reduceSub]
 | some s=>
   simp only[N9,D9,af]
   simp (disch:=omega) only[go_sem,K.cJ,↓reduceIte,N7,Nat.reduceAdd,Nat.reduceSub]
theorem AI{m:aT}(h:m.ok)(t:Int)(ht:0≤t)(ht2:t≤1000000000000)(into:Option (List Int))(hi:∀s,into=some s→s.length≤64):∀(n:Nat) (l:List Int) (ds:aj),xd l<n→l.length=m.places.length→bnd l→
 ∃ds',mz false [0,1,2,3,7,10] (exS aN K.cJ) (D9 m into t l ds true)=some (.exit 0,D9 m into t (iY (cU m t into) n l) ds' false)
 | 0,l,ds,hn,_,_=>absurd hn (by omega)
 | n+1,l,ds,hn,hl,hb=>by
   have r:=Jx h t ht ht2 into hi l hl hb ds (D9 m into t l ds true).H.length
   have s:=(oH h (t:=t) (into:=into) hl hb m.roads.length (Nat.le_refl _)).1
   change (cU m t into l).2=true→xd (cU m t into l).1<xd l at s
   unfold iY
   cases hc:(cU m t into l).2 with
   | true=>
     rw[hc]at r
     obtain⟨ds',h2⟩:=AI h t ht ht2 into hi n (cU m t into l).1 _ (by have:=s hc;omega) (by unfold cU;rw[dg,hl]) (gS h hl hb _ (Nat.le_refl _))
     exact⟨ds',jO r h2⟩
   | false=>
     rw[hc]at r
     exact⟨_,jO r (c7 (Ml m into t _ _) (by simp))⟩
theorem zE{m:aT}(h:m.ok)(t:Int)(ht:0≤t)(ht2:t≤1000000000000)(l:List Int)(hl:l.length=m.places.length)(hb:bnd l):
 aN 0 N.bW [.t m.e,.t (tL l),I t,.fn N.dO []] []=some (.t (tL (cD m t none l)),[])∧
 ∀s:List Int,s.length≤64→aN 1 N.bW [.t m.e,.t (tL l),I t,.fn N.bT [.bp 0 0]] [.box [.t (tL s)]]=some (.ref 1 0 l.length,[.box [.t (tL s)],Dj (cD m t (some s) l)]):=by
 have np:=h.np
 have c1:=yf l (by omega)
 have ln:∀into,(cD m t into l).length=l.length:=by
  intro into
  have key:∀n l,(iY (cU m t into) n l).length=l.length:=by
   intro n
   induction n with
   | zero=>intro l;rfl
   | succ n ih=>
     intro l
     unfold iY
     split
     · rw[ih];unfold cU;rw[dg]
     · unfold cU;rw[dg]
  exact key _ _
 refine⟨ax K.jw rfl ?_,fun s hs=>ax K.jw rfl ?_⟩
 · obtain⟨ds,lp⟩:=AI h t ht ht2 none (by simp) (xd l+1) l [] (Nat.lt_succ_self _) hl hb
   have ln:=ln none
   have lp:∀z0 z1 z2 z3 z7 z10:D,exS aN K.kK ⟨[z0,z1,z2,z3,.bp 0 0,.bp 1 0,.bp 2 0,z7,.bp 4 0,.bp 5 0,z10],[.box (af m),.box [I t],.box [.fn N.dO []],Dj l,.box [.ref 3 0 l.length],.box [B true]]⟩=some (.exit 0,D9 m none t (cD m t none l) ds false):=fun z0 z1 z2 z3 z7 z10=>lp
   generalize cD m t none l=r at*
   obtain⟨places,roads⟩:=m
   simp only[N9,D9,af]at*
   simp (disch:=omega) only[go_sem,K.bW,↓reduceIte,c1,lp,ln,Nat.reduceAdd,Nat.reduceSub]
 · obtain⟨ds,lp⟩:=AI h t ht ht2 (some s) (by intro s' h;cases h;exact hs) (xd l+1) l [] (Nat.lt_succ_self _) hl hb
   have l2:=ln (some s)
   clear ln
   have lp:∀z0 z1 z2 z3 z7 z10:D,exS aN K.kK ⟨[z0,z1,z2,z3,.bp 1 0,.bp 2 0,.bp 3 0,z7,.bp 5 0,.bp 6 0,z10],[.box [.t (tL s)],.box (af m),.box [I t],.box [.fn N.bT [.bp 0 0]],Dj l,.box [.ref 4 0 l.length],.box [B true]]⟩=some (.exit 0,D9 m (some s) t (cD m t (some s) l) ds false):=fun z0 z1 z2 z3 z7 z10=>lp
   generalize cD m t (some s) l=r at*
   obtain⟨places,roads⟩:=m
   simp only[N9,D9,af]at*
   simp (disch:=omega) only[go_sem,K.bW,↓reduceIte,c1,lp,l2,Nat.reduceAdd,Nat.reduceSub]
end Go.Ev
namespace Go.Ev
open Go
variable [Lib] [cn] [bS]
theorem uh{gc:Bool}{dead:List Nat}{c:C}{vs:List D}{H:aj}(s:Nat→St)(n:Nat)(p:Nat→Bool)(P:Nat→Ex×St→Prop)(eN:Ex×St)
 (h0:(⟨jx dead vs,H⟩:St)=s 0) (hs:∀j,j<n→p j=false→fJ gc dead (s j).H.length (exS aN c (s j))=some (s (j+1)))
 (he:∀j,j<n→p j=true→∃q,exS aN c (s j)=some q∧q.1≠ .normal∧P j q) (hN:exS aN c (s n)=some eN) (hn:eN.1≠ .normal):
 ((List.range n).find? p=none∧exS aN (.loop gc dead c) ⟨vs,H⟩=some eN)∨∃j q,(List.range n).find? p=some j∧exS aN (.loop gc dead c) ⟨vs,H⟩=some q∧P j q:=by
 classical
 let e:Nat→Ex×St:=fun j=>if h:j<n∧p j=true then Classical.choose (he j h.1 h.2)else eN
 have h2:∀j,j<n→p j=true→exS aN c (s j)=some (e j)∧(e j).1≠ .normal∧P j (e j):=by
  intro j hj hp
  have e1:e j=Classical.choose (he j hj hp):=dif_pos ⟨hj,hp⟩
  rw[e1]
  exact Classical.choose_spec (he j hj hp)
 have:=b7 s n p e eN h0 hs (fun j hj hp=>⟨(h2 j hj hp).1,(h2 j hj hp).2.1⟩) hN hn
 cases hf:(List.range n).find? p with
 | none=>rw[hf]at this;exact .inl ⟨rfl,this⟩
 | some j=>
   rw[hf]at this
   obtain⟨h3,h4⟩:=x7 hf
   exact .inr ⟨j,e j,rfl,this,(h2 j h3 h4).2.2⟩
def qL(a b:List Int):Bool:=match (List.range (min a.length b.length)).find? (fun j=>decide (nth a j≠nth b j))with
 | some j=>decide (nth a j<nth b j)
 | none=>decide (a.length<b.length)
theorem Ea(a b:List Int)(ha:a.length≤1000000)(hb:b.length≤1000000):aN 0 N.gj [.t (tL a),.t (tL b)] []=some (B (qL a b),[]):=by
 refine ax K.qB rfl ?_
 have loop:∀c:D,exS aN K.tV ⟨[.t (tL a),.t (tL b),c,I 0],[]⟩=
  some (match (List.range (min a.length b.length)).find? (fun j=>decide (nth a j≠nth b j))with
   | some j=>(.ret,⟨[.t (tL a),.t (tL b),B (decide (nth a j<nth b j)),I j],[]⟩)
   | none=>(.exit 0,⟨[.t (tL a),.t (tL b),.und,I (min a.length b.length:Nat)],[]⟩)):=by
  intro c
  refine b7 (fun j=>⟨[.t (tL a),.t (tL b),.und,I j],[]⟩) (min a.length b.length) (fun j=>decide (nth a j≠nth b j)) _ _ rfl ?_ ?_ ?_ (by simp)
  · intro j hj hp
    have hp:nth a j=nth b j:=by simpa using hp
    simp (disch:=omega) only[go_sem,K.gQ,↓reduceIte]
  · intro j hj hp
    have hp:nth a j≠nth b j:=by simpa using hp
    refine⟨?_,by simp⟩
    by_cases h1:nth a j<nth b j
    · simp (disch:=omega) only[go_sem,K.gQ,↓reduceIte,h1,decide_true]
    · simp (disch:=omega) only[go_sem,K.gQ,↓reduceIte,h1,decide_false]
  · by_cases h1:a.length≤b.length
    · have e:min a.length b.length=a.length:=by omega
      rw[e]
      simp (disch:=omega) only[go_sem,K.gQ,↓reduceIte]
    · have e:min a.length b.length=b.length:=by omega
      rw[e]
      simp (disch:=omega) only[go_sem,K.gQ,↓reduceIte]
 unfold qL
 simp (disch:=omega) only[go_sem,K.gj,↓reduceIte,loop]
 cases hf:(List.range (min a.length b.length)).find? (fun j=>decide (nth a j≠nth b j))with
 | some j=>simp (disch:=omega) only[go_sem,↓reduceIte]
 | none=>
   by_cases h1:a.length<b.length
   · simp (disch:=omega) only[go_sem,↓reduceIte,h1,decide_true]
   · simp (disch:=omega) only[go_sem,↓reduceIte,h1,decide_false]
def bL(l:List Int)(x:Int):Int:=match (List.range l.length).find? (fun j=>decide (nth l j=x))with
 | some j=>j
 | none=> -1
theorem mO(l:List Int)(x:Int)(hl:l.length≤1000000):aN 0 N.cH [.t (tL l),I x] []=some (I (bL l x),[]):=by
 refine ax K.nQ rfl ?_
 have loop:∀c:D,exS aN K.qw ⟨[.t (tL l),I x,c,I 0],[]⟩=
  some (match (List.range l.length).find? (fun j=>decide (nth l j=x))with
   | some j=>(.ret,⟨[.t (tL l),I x,I j,I j],[]⟩)
   | none=>(.exit 0,⟨[.t (tL l),I x,.und,I l.length],[]⟩)):=by
  intro c
  refine b7 (fun j=>⟨[.t (tL l),I x,.und,I j],[]⟩) l.length (fun j=>decide (nth l j=x)) _ _ rfl ?_ ?_ ?_ (by simp)
  · intro j hj hp
    have hp:¬nth l j=x:=by simpa using hp
    simp (disch:=omega) only[go_sem,K.ju,↓reduceIte]
  · intro j hj hp
    have hp:nth l j=x:=by simpa using hp
    refine⟨?_,by simp⟩
    simp (disch:=omega) only[go_sem,K.ju,↓reduceIte,hp]
  · simp (disch:=omega) only[go_sem,K.ju,↓reduceIte]
 unfold bL
 simp (disch:=omega) only[go_sem,K.cH,↓reduceIte,loop]
 cases hf:(List.range l.length).find? (fun j=>decide (nth l j=x))with
 | some j=>simp (disch:=omega) only[go_sem,↓reduceIte]
 | none=>simp (disch:=omega) only[go_sem,↓reduceIte]
theorem vk{l:List Int}{x:Int}(h:0≤bL l x):bL l x<l.length∧nth l (bL l x).toNat=x:=by
 unfold bL at h ⊢
 cases hf:(List.range l.length).find? (fun j=>decide (nth l j=x))with
 | some j=>
   obtain⟨h1,h2⟩:=x7 hf
   simp only[Int.toNat_natCast]
   exact⟨by omega,of_decide_eq_true h2⟩
 | none=>rw[hf]at h;simp at h
def mP(l:List Int)(j:Nat):Bool:=decide (1≤nth l j∧nth l j≤65535∧bL (l.take j) (nth l j)<0)
def eC(l:List Int):Bool:=(List.range l.length).all (mP l)
theorem Co(l:List Int)(hl:l.length≤1000000):aN 0 N.dW [.t (tL l)] []=some (B (eC l),[]):=by
 refine ax K.nK rfl ?_
 have loop:∀c:D,exS aN K.qu ⟨[.t (tL l),c,I 0],[]⟩=
  some (match (List.range l.length).find? (fun j=> !mP l j)with
   | some j=>(.ret,⟨[.t (tL l),B false,I j],[]⟩)
   | none=>(.exit 0,⟨[.t (tL l),.und,I l.length],[]⟩)):=by
  intro c
  refine b7 (fun j=>⟨[.t (tL l),.und,I j],[]⟩) l.length (fun j=> !mP l j) _ _ rfl ?_ ?_ ?_ (by simp)
  · intro j hj hp
    have hp:mP l j=true:=by simpa using hp
    have b:=mO (l.take j) (nth l j) (by rw[List.length_take];omega)
    simp only[mP,decide_eq_true_eq]at hp
    simp only[tL,List.map_take]at b
    simp (disch:=omega) only[go_sem,K.fG,↓reduceIte,b]
  · intro j hj hp
    have hp:mP l j=false:=by simpa using hp
    have b:=mO (l.take j) (nth l j) (by rw[List.length_take];omega)
    simp only[mP,decide_eq_false_iff_not]at hp
    simp only[tL,List.map_take]at b
    refine⟨?_,by simp⟩
    by_cases h1:nth l j<1
    · simp (disch:=omega) only[go_sem,K.fG,↓reduceIte,b]
    · by_cases h2:65535<nth l j
      · simp (disch:=omega) only[go_sem,K.fG,↓reduceIte,b]
      · simp (disch:=omega) only[go_sem,K.fG,↓reduceIte,b]
  · simp (disch:=omega) only[go_sem,K.fG,↓reduceIte]
 unfold eC
 rw[pz]
 simp (disch:=omega) only[go_sem,K.dW,↓reduceIte,loop]
 cases hf:(List.range l.length).find? (fun j=> !mP l j)with
 | some j=>simp (disch:=omega) only[go_sem,↓reduceIte,Option.isNone]
 | none=>simp (disch:=omega) only[go_sem,↓reduceIte,Option.isNone]
structure World where
 tags:List Int
 whr:List Wh
instance : Dat World := ⟨⟨[], []⟩⟩
abbrev World.e(x:World):T:= .agg [tL x.tags,.sl (x.whr.map Wh.e)]
structure Bel where
 worlds:List World
instance : Dat Bel := ⟨⟨[]⟩⟩
abbrev Bel.e(b:Bel):T:= .agg [.sl (b.worlds.map World.e)]
def World.sz(x:World):Prop:=x.tags.length≤1000000∧x.whr.length≤1000000∧∀w∈x.whr,w.frm.length≤1000000
def Bel.sz(b:Bel):Prop:=b.worlds.length≤1000000∧∀x∈b.worlds,x.sz
theorem rX(x:World)(h:x.sz)(a:D):exS aN K.ng ⟨[a,.bp 0 0,.bp 1 0,.bp 3 0,I 0],[.box [.t (tL x.tags),.t (.sl (x.whr.map Wh.e))],.box [.nil,.nil],.arr 1 false 0 ((x.tags.map (T.int .i64)).map .t),.box [.ref 2 0 x.tags.length,.ref 5 0 0],.arr 2 false 0 [],.arr 2 false 0 []]⟩=
 some (.exit 0,⟨[.und,.bp 0 0,.bp 1 0,.bp 3 0,I x.whr.length],[.box [.t (tL x.tags),.t (.sl (x.whr.map Wh.e))],.box [.nil,.nil],.arr 1 false 0 ((x.tags.map (T.int .i64)).map .t),.box [.ref 2 0 x.tags.length,.ref 5 0 x.whr.length],.arr 2 false 0 [],.arr 2 false 0 ((x.whr.map Wh.e).map .t)]⟩):=by
 obtain⟨tags,whr⟩:=x
 obtain⟨h1,h2,h3⟩:=h
 simp only at h1 h2 h3 ⊢
 have tk:whr.take whr.length=whr:=by simp
 refine b5 (fun j=>⟨[.und,.bp 0 0,.bp 1 0,.bp 3 0,I j],[.box [.t (tL tags),.t (.sl (whr.map Wh.e))],.box [.nil,.nil],.arr 1 false 0 ((tags.map (T.int .i64)).map .t),.box [.ref 2 0 tags.length,.ref 5 0 (whr.take j).length],.arr 2 false 0 [],.arr 2 false 0 (((whr.take j).map Wh.e).map .t)]⟩) whr.length rfl ?_ ?_ (by simp)
 · intro j hj
   have c:=AB (nth whr j) (by have:=h3 _ (aa hj);omega)
   have lt:(whr.take j).length=j:=by rw[List.length_take];omega
   generalize hx:nth whr j=w at*
   obtain⟨time,frm⟩:=w
   have tk:whr.take (j+1)=whr.take j++[⟨time,frm⟩]:=by rw[iP hj,hx]
   generalize whr.take j=pre at*
   simp (disch:=omega) only[go_sem,K.jy,↓reduceIte,hx,c,lt,tk,Nat.reduceAdd,Nat.reduceSub]
 · simp (disch:=omega) only[go_sem,K.jy,↓reduceIte,tk]
theorem Cp(x:World)(h:x.sz):aN 0 N.bw [.t x.e] []=some (.t x.e,[]):=by
 refine ax K.iN rfl ?_
 have loop:=rX x h
 obtain⟨tags,whr⟩:=x
 obtain⟨h1,h2,h3⟩:=h
 simp only at h1 h2 h3 loop ⊢
 simp (disch:=omega) only[go_sem,K.bw,↓reduceIte,loop]
theorem mc(x:World)(h:x.sz):aN 1 N.bw [.t x.e] []=some (.agg [.ref 0 0 x.tags.length,.ref 1 0 x.whr.length],[.arr 1 false 0 ((x.tags.map (T.int .i64)).map .t),.arr 2 false 0 ((x.whr.map Wh.e).map .t)]):=by
 refine ax K.iN rfl ?_
 have loop:=rX x h
 obtain⟨tags,whr⟩:=x
 obtain⟨h1,h2,h3⟩:=h
 simp only at h1 h2 h3 loop ⊢
 simp (disch:=omega) only[go_sem,K.bw,↓reduceIte,loop]
theorem wc(l:List World)(h1:l.length≤1000000)(h2:∀x∈l,x.sz)(a:D):exS aN K.tR ⟨[a,.bp 0 0,.bp 1 0,.bp 2 0,I 0],[.box [.t (.sl (l.map World.e))],.box [.nil],.box [.ref 3 0 0],.arr 2 false 0 []]⟩=
 some (.exit 0,⟨[.und,.bp 0 0,.bp 1 0,.bp 2 0,I l.length],[.box [.t (.sl (l.map World.e))],.box [.nil],.box [.ref 3 0 l.length],.arr 2 false 0 ((l.map World.e).map .t)]⟩):=by
 have tk:l.take l.length=l:=by simp
 refine b5 (fun j=>⟨[.und,.bp 0 0,.bp 1 0,.bp 2 0,I j],[.box [.t (.sl (l.map World.e))],.box [.nil],.box [.ref 3 0 (l.take j).length],.arr 2 false 0 (((l.take j).map World.e).map .t)]⟩) l.length rfl ?_ ?_ (by simp)
 · intro j hj
   have c:=Cp (nth l j) (h2 _ (aa hj))
   have lt:(l.take j).length=j:=by rw[List.length_take];omega
   generalize hx:nth l j=w at*
   obtain⟨tags,whr⟩:=w
   have tk:l.take (j+1)=l.take j++[⟨tags,whr⟩]:=by rw[iP hj,hx]
   generalize l.take j=pre at*
   simp (disch:=omega) only[go_sem,K.nL,↓reduceIte,hx,c,lt,tk,Nat.reduceAdd,Nat.reduceSub]
 · simp (disch:=omega) only[go_sem,K.nL,↓reduceIte,tk]
theorem vl(b:Bel)(h:b.sz):aN 0 N.dH [.t b.e] []=some (.t b.e,[]):=by
 refine ax K.nh rfl ?_
 obtain⟨h1,h2⟩:=h
 have loop:=wc b.worlds h1 h2
 obtain⟨l⟩:=b
 simp only at h1 h2 loop ⊢
 simp (disch:=omega) only[go_sem,K.dH,↓reduceIte,loop]
theorem Eb(b:Bel)(h:b.sz):aN 1 N.dH [.t b.e] []=some (.agg [.ref 0 0 b.worlds.length],[.arr 2 false 0 ((b.worlds.map World.e).map .t)]):=by
 refine ax K.nh rfl ?_
 obtain⟨h1,h2⟩:=h
 have loop:=wc b.worlds h1 h2
 obtain⟨l⟩:=b
 simp only at h1 h2 loop ⊢
 simp (disch:=omega) only[go_sem,K.dH,↓reduceIte,loop]
def HU(m:aT)(first:List Int)(x:World)(k:Nat):Bool:=decide (0≤bL first (nth x.tags k))&&cL m (nth x.whr k)
def oJ(m:aT)(ws:List World)(first:List Int)(i:Nat):Bool:=
 decide ((nth ws i).tags.length=first.length∧(nth ws i).whr.length=first.length)&&eC (nth ws i).tags&&(decide (i=0)||qL (nth ws (i-1)).tags (nth ws i).tags)&&(List.range (nth ws i).tags.length).all (HU m first (nth ws i))
def qf(m:aT)(b:Bel):Bool:=
 decide (1≤b.worlds.length∧b.worlds.length≤24)&&decide (1≤(nth b.worlds 0).tags.length∧(nth b.worlds 0).tags.length≤12)&&(List.range b.worlds.length).all (oJ m b.worlds (nth b.worlds 0).tags)
theorem yh{m:aT}(h:m.ok)(ws:List World)(first:List Int)(hf:first.length≤1000000)(hs:∀x∈ws,x.sz)(i:Nat)(hi:i<ws.length)(hl:ws.length≤1000000):
 (oJ m ws first i=true→fJ true [0,1,4,7,8] 2 (exS aN K.bK ⟨[.und,.und,.bp 0 0,.bp 1 0,.und,.t (tL first),I i,.und,.und],[.box (af m),.box [.t (.sl (ws.map World.e))]]⟩)=some ⟨[.und,.und,.bp 0 0,.bp 1 0,.und,.t (tL first),I (i+1),.und,.und],[.box (af m),.box [.t (.sl (ws.map World.e))]]⟩)∧
 (oJ m ws first i=false→∃q,exS aN K.bK ⟨[.und,.und,.bp 0 0,.bp 1 0,.und,.t (tL first),I i,.und,.und],[.box (af m),.box [.t (.sl (ws.map World.e))]]⟩=some q∧q.1= .ret∧q.2.vs[4]?=some (B false)):=by
 have np:=h.np
 have sz:=hs _ (aa hi)
 have sz0:0<i→(nth ws (i-1)).sz:=fun h0=>hs _ (aa (by omega))
 unfold oJ
 generalize hy:nth ws (i-1)=y at*
 generalize hx:nth ws i=x at*
 obtain⟨tags,whr⟩:=x
 obtain⟨ptags,pwhr⟩:=y
 obtain⟨s1,s2,s3⟩:=sz
 simp only at s1 s2 s3 sz0 ⊢
 have p:=Co tags s1
 have inner:tags.length=first.length→whr.length=first.length→∀a b c:D,
  ((List.range tags.length).all (HU m first ⟨tags,whr⟩)=true∧exS aN K.nM ⟨[a,b,.bp 0 0,.bp 1 0,c,.t (tL first),I i,.bp 2 0,I 0],[.box (af m),.box [.t (.sl (ws.map World.e))],.box [.t (tL tags),.t (.sl (whr.map Wh.e))]]⟩=
    some (.exit 2,⟨[.und,.und,.bp 0 0,.bp 1 0,.und,.t (tL first),I i,.bp 2 0,I tags.length],[.box (af m),.box [.t (.sl (ws.map World.e))],.box [.t (tL tags),.t (.sl (whr.map Wh.e))]]⟩))∨
  ((List.range tags.length).all (HU m first ⟨tags,whr⟩)=false∧∃j,exS aN K.nM ⟨[a,b,.bp 0 0,.bp 1 0,c,.t (tL first),I i,.bp 2 0,I 0],[.box (af m),.box [.t (.sl (ws.map World.e))],.box [.t (tL tags),.t (.sl (whr.map Wh.e))]]⟩=
    some (.ret,⟨[.und,.und,.bp 0 0,.bp 1 0,B false,.t (tL first),I i,.bp 2 0,j],[.box (af m),.box [.t (.sl (ws.map World.e))],.box [.t (tL tags),.t (.sl (whr.map Wh.e))]]⟩)):=by
  intro l1 l2 a b c
  have:=b7 (gc:=true) (dead:=[0,1,4]) (c:=K.gn) (vs:=[a,b,.bp 0 0,.bp 1 0,c,.t (tL first),I i,.bp 2 0,I 0]) (H:=[.box (af m),.box [.t (.sl (ws.map World.e))],.box [.t (tL tags),.t (.sl (whr.map Wh.e))]])
   (fun j=>⟨[.und,.und,.bp 0 0,.bp 1 0,.und,.t (tL first),I i,.bp 2 0,I j],[.box (af m),.box [.t (.sl (ws.map World.e))],.box [.t (tL tags),.t (.sl (whr.map Wh.e))]]⟩) tags.length (fun j=> !HU m first ⟨tags,whr⟩ j)
   (fun j=>(.ret,⟨[.und,.und,.bp 0 0,.bp 1 0,B false,.t (tL first),I i,.bp 2 0,I j],[.box (af m),.box [.t (.sl (ws.map World.e))],.box [.t (tL tags),.t (.sl (whr.map Wh.e))]]⟩))
   (.exit 2,⟨[.und,.und,.bp 0 0,.bp 1 0,.und,.t (tL first),I i,.bp 2 0,I tags.length],[.box (af m),.box [.t (.sl (ws.map World.e))],.box [.t (tL tags),.t (.sl (whr.map Wh.e))]]⟩) rfl
   (by
    intro j hj hp
    have hp:HU m first ⟨tags,whr⟩ j=true:=by simpa using hp
    have b:=mO first (nth tags j) hf
    have v:=AA h (nth whr j) (by have:=s3 _ (aa (l:=whr) (j:=j) (by omega));omega)
    simp only[HU,Bool.and_eq_true,decide_eq_true_eq]at hp
    rw[hp.2]at v
    have hp:=hp.1
    simp (disch:=omega) only[go_sem,K.gn,↓reduceIte,b,v])
   (by
    intro j hj hp
    have hp:HU m first ⟨tags,whr⟩ j=false:=by simpa using hp
    have b:=mO first (nth tags j) hf
    have v:=AA h (nth whr j) (by have:=s3 _ (aa (l:=whr) (j:=j) (by omega));omega)
    refine⟨?_,by simp⟩
    by_cases c1:bL first (nth tags j)<0
    · simp (disch:=omega) only[go_sem,K.gn,↓reduceIte,b,v]
    · have:cL m (nth whr j)=false:=by
       simp only[HU,Bool.and_eq_false_iff,decide_eq_false_iff_not]at hp
       rcases hp with hp | hp
       · exact absurd (by omega) hp
       · exact hp
      rw[this]at v
      simp (disch:=omega) only[go_sem,K.gn,↓reduceIte,b,v])
   (by simp (disch:=omega) only[go_sem,K.gn,↓reduceIte]) (by simp)
  cases hf:(List.range tags.length).find? (fun j=> !HU m first ⟨tags,whr⟩ j)with
  | none=>rw[hf]at this;exact .inl ⟨by rw[pz,hf];rfl,this⟩
  | some j=>rw[hf]at this;exact .inr ⟨by rw[pz,hf];rfl,⟨_,this⟩⟩
 by_cases l1:tags.length=first.length
 · by_cases l2:whr.length=first.length
   · cases hp:eC tags with
     | false=>
       rw[hp]at p
       refine⟨fun h=>by simp[hp]at h,fun _=>?_⟩
       simp (disch:=omega) only[go_sem,K.bK,↓reduceIte,hx,p]
       refine⟨_,rfl,?_,?_⟩<;>rfl
     | true=>
       rw[hp]at p
       have inner:=inner l1 l2
       cases i with
       | zero=>
         simp only[DV]at inner
         simp only[l1,l2,and_self,decide_true,Bool.true_and,Bool.true_or]at inner ⊢
         rcases inner .und .und .und with⟨e, -⟩ | ⟨e, -⟩
         · refine⟨fun _=>?_,fun h=>by rw[e]at h;exact absurd h (by simp)⟩
           have inner:=fun a b c=>((inner a b c).resolve_right fun h=>by rw[e]at h;exact absurd h.1 (by simp)).2
           simp (disch:=omega) only[go_sem,K.bK,↓reduceIte,hx,p,inner]
         · refine⟨fun h=>by rw[e]at h;exact absurd h (by simp),fun _=>?_⟩
           have inner:∀a b c,_:=fun a b c=>((inner a b c).resolve_left fun h=>by rw[e]at h;exact absurd h.1 (by simp)).2
           obtain⟨j,inner⟩:=inner .und .und .und
           simp (disch:=omega) only[go_sem,K.bK,↓reduceIte,hx,p,inner]
           refine⟨_,rfl,?_,?_⟩<;>rfl
       | succ i=>
         simp only[GH,GI]at inner
         rw[Nat.add_sub_cancel]at hy
         have ls:=Ea ptags tags (sz0 (by omega)).1 s1
         cases hl:qL ptags tags with
         | false=>
           rw[hl]at ls
           refine⟨fun h=>by simp at h,fun _=>?_⟩
           simp (disch:=omega) only[go_sem,K.bK,↓reduceIte,hx,p,hy,ls]
           refine⟨_,rfl,?_,?_⟩<;>rfl
         | true=>
           rw[hl]at ls
           simp only[l1,l2,and_self,decide_true,Bool.true_and,Bool.or_true]at inner ⊢
           rcases inner .und .und .und with⟨e, -⟩ | ⟨e, -⟩
           · refine⟨fun _=>?_,fun h=>by rw[e]at h;exact absurd h (by simp)⟩
             have inner:=fun a b c=>((inner a b c).resolve_right fun h=>by rw[e]at h;exact absurd h.1 (by simp)).2
             simp (disch:=omega) only[go_sem,K.bK,↓reduceIte,hx,hy,ls,p,inner]
           · refine⟨fun h=>by rw[e]at h;exact absurd h (by simp),fun _=>?_⟩
             have inner:∀a b c,_:=fun a b c=>((inner a b c).resolve_left fun h=>by rw[e]at h;exact absurd h.1 (by simp)).2
             obtain⟨j,inner⟩:=inner .und .und .und
             simp (disch:=omega) only[go_sem,K.bK,↓reduceIte,hx,hy,ls,p,inner]
             refine⟨_,rfl,?_,?_⟩<;>rfl
   · refine⟨fun h=>by simp[l2]at h,fun _=>?_⟩
     simp (disch:=omega) only[go_sem,K.bK,↓reduceIte,hx,p]
     refine⟨_,rfl,?_,?_⟩<;>rfl
 · refine⟨fun h=>by simp[l1]at h,fun _=>?_⟩
   simp (disch:=omega) only[go_sem,K.bK,↓reduceIte,hx,p]
   refine⟨_,rfl,?_,?_⟩<;>rfl
theorem Jy{m:aT}(h:m.ok)(b:Bel)(hs:b.sz):aN 0 N.cF [.t m.e,.t b.e] []=some (B (qf m b),[]):=by
 refine ax K.o9 rfl ?_
 obtain⟨h1,h2⟩:=hs
 have ck:=ru h
 obtain⟨ws⟩:=b
 unfold qf
 simp only at h1 h2 ⊢
 by_cases c1:ws.length<1
 · simp (disch:=omega) only[go_sem,K.cF,↓reduceIte,show ¬(1≤ws.length∧ws.length≤24)by omega,decide_false,Bool.false_and]
 · by_cases c2:24<ws.length
   · simp (disch:=omega) only[go_sem,K.cF,↓reduceIte,show ¬(1≤ws.length∧ws.length≤24)by omega,decide_false,Bool.false_and]
   · have c3:1≤ws.length∧ws.length≤24:=by omega
     have sz:=h2 _ (aa (l:=ws) (j:=0) (by omega))
     have i0:(ws.map World.e)[0]?=some (nth ws 0).e:=dz _ (by omega)
     generalize hx:nth ws 0=x at*
     obtain⟨first,whr⟩:=x
     have hf:=sz.1
     simp only at hf ⊢
     by_cases c4:first.length<1
     · simp (disch:=omega) only[go_sem,K.cF,↓reduceIte,ck,hx,c3,and_self,show ¬(1≤first.length∧first.length≤12)by omega,decide_true,decide_false,Bool.true_and,Bool.false_and]
     · by_cases c5:12<first.length
       · simp (disch:=omega) only[go_sem,K.cF,↓reduceIte,ck,hx,c3,and_self,show ¬(1≤first.length∧first.length≤12)by omega,decide_true,decide_false,Bool.true_and,Bool.false_and]
       · have loop:=fun a b c d e=>uh (gc:=true) (dead:=[0,1,4,7,8]) (c:=K.bK) (vs:=[a,b,.bp 0 0,.bp 1 0,c,.t (tL first),I 0,d,e]) (H:=[.box (af m),.box [.t (.sl (ws.map World.e))]])
          (fun j=>⟨[.und,.und,.bp 0 0,.bp 1 0,.und,.t (tL first),I j,.und,.und],[.box (af m),.box [.t (.sl (ws.map World.e))]]⟩) ws.length (fun j=> !oJ m ws first j) (fun _ q=>q.1= .ret∧q.2.vs[4]?=some (B false))
          (.exit 0,⟨[.und,.und,.bp 0 0,.bp 1 0,.und,.t (tL first),I ws.length,.und,.und],[.box (af m),.box [.t (.sl (ws.map World.e))]]⟩) rfl
          (fun j hj hp=>(yh h ws first hf h2 j hj h1).1 (by simpa using hp))
          (fun j hj hp=>by
           obtain⟨q,q1,q2,q3⟩:=(yh h ws first hf h2 j hj h1).2 (by simpa using hp)
           exact⟨q,q1,by rw[q2];simp,q2,q3⟩)
          (by simp (disch:=omega) only[go_sem,K.bK,↓reduceIte]) (by simp)
         rw[pz]
         rcases loop (.t m.e) (.t (Bel.e ⟨ws⟩)) (B false) .und .und with⟨e1,e2⟩ | ⟨j,⟨x,vs,H⟩,e1,e2,e3,e4⟩
         · have e2:exS aN K.nN ⟨[.t m.e,.t (Bel.e ⟨ws⟩),.bp 0 0,.bp 1 0,B false,.t (tL first),I 0,.und,.und],[.box (af m),.box [.t (.sl (ws.map World.e))]]⟩=_:=e2
           simp (disch:=omega) only[go_sem,K.cF,↓reduceIte,ck,hx,c3,and_self,show(1≤first.length∧first.length≤12)by omega,decide_true,decide_false,Bool.true_and,e1,e2,Option.isNone]
         · have e2:exS aN K.nN ⟨[.t m.e,.t (Bel.e ⟨ws⟩),.bp 0 0,.bp 1 0,B false,.t (tL first),I 0,.und,.und],[.box (af m),.box [.t (.sl (ws.map World.e))]]⟩=_:=e2
           simp only at e3 e4
           subst e3
           simp (disch:=omega) only[go_sem,K.cF,↓reduceIte,ck,hx,c3,and_self,show(1≤first.length∧first.length≤12)by omega,decide_true,decide_false,Bool.true_and,e1,e2,Option.isNone]
           simp (disch:=omega) only[go_sem,iw,e4,List.take_zero]
end Go.Ev
namespace Go.Ev.K
open Go.Ev
def lK:C:=(.seq (.ite [m v5,f 1 v2,g l0,u (.ln l0),u (.bin .lss l3 l0)] [] 0 .skip (.exit 0)) (.seq (.blk 1 (.seq (.reg [f 1 v2,g l0,m v5,a 10 l1 l0,h 10 l0,w 6 (.al [.t (.int .i64 (0)),.t (.int .i64 (0)),.t (.int .i64 (0)),.t (.int .i64 (0)),.t (.bool false),.t (.bool false),.t (.int .i64 (0)),.t (.int .i64 (0)),.t (.int .i64 (0)),.t (.int .i64 (0))] []),u (.st l0 l1 10 [])] []) (.seq (.reg [h 2 v2,m v5,u (.ca N.eU 0 [] [.l 1,.l 0,.b false]),u (.bin .geq l0 (.i 0)),m l0,y 0 false (.ld v2 2 true),y 1 false (.mv v5),y 2 false (.ca N.eU 0 [] [.l 1,.l 0,.b true]),y 3 false (.bin .geq l0 (.i 0)),u (.pk l4 (.b true) l0),w 7 (.mv l0)] []) (.ite [f 5 v6,g l0,u (.un .not l0),m l0,y 0 true (.mv v7),u (.pk l1 l0 (.b false)),m l0,y 0 true (.mv v1),y 1 true (.fa v6 0),y 2 true (.ld l0 1 false),y 3 true (.ca N.fK 0 [] [.l 2,.l 0]),y 4 true (.mv v1),y 5 true (.fa v6 1),y 6 true (.ld l0 1 false),y 7 true (.ca N.fK 0 [] [.l 2,.l 0]),y 8 true (.eqk (.bool) true l4 l0),u (.pk l9 l0 (.b false))] [(13,0)] 0 (.reg [m v4,m v5,u (.bs [.l 0] 1),u (.app l2 l0 true 1),w 4 (.mv l0)] []) .skip)))) (.reg [m v5,u (.bin .add l0 (.i 1)),w 5 (.mv l0)] [])))
def qM:C:= .loop true [0,3,6,7] K.lK
def eR:Fn:={ nargs:=2,vars:=[0,1,2,4,5,6,7,8],body:=(.seq (.reg [w 2 (.bx v0 2),w 3 (.mv (.c (.nil)))] []) (.seq (.reg [w 4 (.nw 1)] []) (.seq (.seq (.reg [w 5 (.mv (.i 0))] []) (.blk 0 K.qM)) (.seq (.reg [m v4,w 3 (.mv l0)] []) .ret)))),res:=[(3,none)]}
def pI:C:=(.seq (.ite [m v5,f 0 v1,g l0,m v4,a 2 l1 l0,f 1 l0,g l0,u (.ln l0),u (.bin .lss l7 l0)] [] 0 .skip (.exit 2)) (.seq (.blk 3 (.reg [m v3,f 0 v1,g l0,m v4,a 2 l1 l0,f 1 l0,g l0,m v5,a 2 l1 l0,f 0 l0,g l0,u (.mx [.l 10,.l 0]),w 3 (.mv l0)] [])) (.reg [m v5,u (.bin .add l0 (.i 1)),w 5 (.mv l0)] [])))
def we:C:= .loop true [0,2] K.pI
def pJ:C:=(.seq (.ite [m v4,f 0 v1,g l0,u (.ln l0),u (.bin .lss l3 l0)] [] 0 .skip (.exit 0)) (.seq (.blk 1 (.seq (.reg [w 5 (.mv (.i 0))] []) (.blk 2 K.we))) (.reg [m v4,u (.bin .add l0 (.i 1)),w 4 (.mv l0)] [])))
def wg:C:= .loop true [0,2,5] K.pJ
def jc:Fn:={ nargs:=1,vars:=[0,1,2,3,4,5],body:=(.seq (.reg [w 1 (.bx v0 1),w 2 (.mv (.i 0))] []) (.seq (.reg [w 3 (.mv (.i 0))] []) (.seq (.seq (.reg [w 4 (.mv (.i 0))] []) (.blk 0 K.wg)) (.seq (.reg [m v3,w 2 (.mv l0)] []) .ret)))),res:=[(2,none)]}
end Go.Ev.K
namespace Go.Ev
class iE [Lib]:Prop where
 n5:Lib.fs N.eR=some K.eR
 sQ:Lib.fs N.jc=some K.jc
namespace K
variable [Lib] [iE]
theorem n5:Lib.fs N.eR=some K.eR:=iE.n5
theorem sQ:Lib.fs N.jc=some K.jc:=iE.sQ
end K
end Go.Ev
namespace Go.Ev.K
open Go.Ev
def eD:C:=(.its [u (.bin .lss v8 v7)] [] 0 .skip (.exit 0) (.seq (.blk 1 (.seq (.reg [m v8,a 1 v6 v8,g l0,w 4 (.mv l2),w 5 (.mv l1)] []) (.ite [m v5,m v1,u (.bin .lss l1 l0),m l0,y 0 false (.mv v5),y 1 false (.mv v2),y 2 false (.bin .gtr l1 l0),u (.pk l3 (.b true) l0),m l0,y 0 false (.mv v4),y 1 false (.bin .gtr l0 (.i 0)),y 2 false (.mv l0),y 0 true (.mv v5),y 1 true (.mv v0),y 2 true (.mv v4),y 3 true (.bin .sub l0 (.i 1)),y 4 true (.ia l2 l0 1),y 5 true (.ld l0 1 false),y 6 true (.bin .leq l5 l0),y 10 false (.pk l7 l0 (.b false)),u (.pk l11 (.b true) l0)] [] 0 (.seq (.reg [w 3 (.mv (.b false))] []) .ret) .skip))) (.reg [u (.bin .add v8 (.i 1)),w 8 (.mv l0)] [])))
def qN:C:= .loop true [3,4,5] K.eD
def dZ:Fn:={ nargs:=3,vars:=[0,1,2,6,7,8,9,10,11],body:=(.seq (.reg [w 3 (.mv (.b false))] []) (.seq (.seq (.reg [w 6 (.mv v0),w 7 (.ln l0),w 8 (.mv (.i 0))] []) (.blk 0 K.qN)) (.seq (.reg [w 3 (.mv (.b true))] []) .ret))),res:=[(3,none)]}
def lL:C:=(.seq (.ite [m v5,m v1,u (.ln l0),u (.bin .lss l2 l0)] [] 0 .skip (.exit 0)) (.seq (.blk 1 (.reg [f 1 v2,g l0,m v1,m v5,a 1 l1 l0,g l0,a 10 l4 l0,f 4 l0,u (.st l0 (.b false) 1 [])] [])) (.reg [m v5,u (.bin .add l0 (.i 1)),w 5 (.mv l0)] [])))
def qO:C:= .loop true [0,4] K.lL
def ec:Fn:={ nargs:=2,vars:=[0,1,2,4,5,6],body:=(.seq (.reg [w 2 (.bx v0 2),w 3 (.al [.nil,.nil] []),w 4 (.mv (.i 0))] []) (.seq (.ite [h 2 v2,u (.ca N.cW 0 [] [.l 0]),u (.bin .neq l0 (.i 0))] [] 0 (.seq (.reg [u (.bd [.nil,.nil] []),u (.st v3 l0 2 []),w 4 (.mv (.i 6))] []) .ret) .skip) (.seq (.ite [m v1,f 1 v2,g l0,u (.ln l0),u (.ca N.iC 0 [] [.l 3,.l 0]),u (.un .not l0)] [] 0 (.seq (.reg [u (.bd [.nil,.nil] []),u (.st v3 l0 2 []),w 4 (.mv (.i 4))] []) .ret) .skip) (.seq (.reg [h 2 v2,u (.ca N.gT 1 [] [.l 0]),u (.st v2 l0 2 [])] []) (.seq (.seq (.reg [w 5 (.mv (.i 0))] []) (.blk 0 K.qO)) (.seq (.reg [h 2 v2,u (.st v3 l0 2 []),w 4 (.mv (.i 0))] []) .ret)))))),res:=[(3,some (2,true)),(4,none)]}
def kV:C:=(.its [u (.bin .lss v11 v10)] [] 0 .skip (.exit 2) (.seq (.blk 3 (.seq (.reg [a 2 v9 v11,h 2 l0,w 5 (.al [.t (.int .i64 (0)),.nil] []),u (.st l0 l1 2 [])] []) (.ite [m v1,u (.mf N.bX [.v 5]),u (.ca N.aB 0 [] [.l 1,.l 0])] [] 0 (.seq (.reg [w 3 (.mv (.b false))] []) .ret) .skip))) (.reg [u (.bin .add v11 (.i 1)),w 11 (.mv l0)] [])))
def ui:C:= .loop true [0,2,3,4,5] K.kV
def kW:C:=(.its [u (.bin .lss v8 v7)] [] 0 .skip (.exit 0) (.seq (.blk 1 (.seq (.reg [a 2 v6 v8,h 2 l0,w 4 (.al [.nil,.nil] []),u (.st l0 l1 2 [])] []) (.seq (.reg [f 1 v4,w 9 (.ld l0 1 false),w 10 (.ln l0),w 11 (.mv (.i 0))] []) (.blk 2 K.ui)))) (.reg [u (.bin .add v8 (.i 1)),w 8 (.mv l0)] [])))
def uk:C:= .loop true [0,2,3,4,5,9,10,11] K.kW
def fH:Fn:={ nargs:=2,vars:=[0,1,2,4,6,8,10,11,12,17,18,19],body:=(.seq (.reg [w 2 (.bx v0 1),w 3 (.mv (.b false))] []) (.seq (.seq (.reg [f 0 v2,w 6 (.ld l0 1 false),w 7 (.ln l0),w 8 (.mv (.i 0))] []) (.blk 0 K.uk)) (.seq (.reg [w 3 (.mv (.b true))] []) .ret))),res:=[(3,none)]}
def gT:Fn:={ nargs:=1,vars:=[0,1,2],body:=(.seq (.reg [w 1 (.bx v0 2),w 2 (.al [.nil,.nil] [])] []) (.seq (.reg [f 0 v1,g l0,u (.app (.c (.nil)) l0 true 2),f 1 v1,g l0,u (.app (.c (.nil)) l0 true 10),u (.bd [.nil,.nil] [(0,1,.l 3),(1,1,.l 0)]),u (.st v2 l0 2 [])] [(4,0)]) .ret)),res:=[(2,some (2,true))]}
def bX:Fn:={ nargs:=2,vars:=[0,1,3],body:=(.seq (.reg [w 2 (.mv (.b false))] []) (.seq (.reg [m v0,f 1 v1,g l0,u (.ln l0),u (.bin .sub l0 (.i 1)),u (.ca N.eM 0 [] [.l 4,.i 0,.l 0]),m l0,y 0 true (.fa v1 1),y 1 true (.ld l0 1 false),y 2 true (.mv v0),y 3 true (.ia l1 l0 1),y 4 true (.ld l0 1 false),y 5 true (.bin .neq l0 (.i 1099511627776)),u (.pk l6 l0 (.b false)),w 2 (.mv l0)] []) .ret)),res:=[(2,none)]}
end Go.Ev.K
namespace Go.Ev
class iv [Lib]:Prop where
 n9:Lib.fs N.dZ=some K.dZ
 oa:Lib.fs N.ec=some K.ec
 qP:Lib.fs N.fH=some K.fH
 qQ:Lib.fs N.gT=some K.gT
 oc:Lib.fs N.bX=some K.bX
namespace K
variable [Lib] [iv]
theorem n9:Lib.fs N.dZ=some K.dZ:=iv.n9
theorem oa:Lib.fs N.ec=some K.ec:=iv.oa
theorem qP:Lib.fs N.fH=some K.fH:=iv.qP
theorem qQ:Lib.fs N.gT=some K.gT:=iv.qQ
theorem oc:Lib.fs N.bX=some K.bX:=iv.oc
end K
end Go.Ev
namespace Go.Ev
open Go
variable [Lib] [cn] [bS] [iE] [iv]
def Jz(l:List Int)(lo hi:Int)(j:Nat):Bool:= !decide (lo≤nth l j∧nth l j≤hi∧(0<j→nth l (j-1)<nth l j))
def Oa(l:List Int)(lo hi:Int):Bool:= !((List.range l.length).any (Jz l lo hi))
theorem Cq(l:List Int)(lo hi:Int)(hl:l.length≤4294967296):aN 0 N.dZ [.t (tL l),I lo,I hi] []=some (B (Oa l lo hi),[]):=by
 refine ax K.n9 rfl ?_
 have loop:∀a b c:D,exS aN K.qN ⟨[.t (tL l),I lo,I hi,a,b,c,.t (tL l),I l.length,I 0],[]⟩=
  some (if(List.range l.length).any (Jz l lo hi)=true
   then(.ret,⟨[.t (tL l),I lo,I hi,B false,I (p7 l.length (Jz l lo hi)),I (nth l (p7 l.length (Jz l lo hi))),.t (tL l),I l.length,I (p7 l.length (Jz l lo hi))],[]⟩)
   else(.exit 0,⟨[.t (tL l),I lo,I hi,.und,.und,.und,.t (tL l),I l.length,I l.length],[]⟩)):=by
  intro a b c
  refine yd (fun j=>⟨[.t (tL l),I lo,I hi,.und,.und,.und,.t (tL l),I l.length,I j],[]⟩) l.length (Jz l lo hi) (fun j=>(.ret,⟨[.t (tL l),I lo,I hi,B false,I j,I (nth l j),.t (tL l),I l.length,I j],[]⟩)) _ rfl ?_ ?_ ?_ (by simp)
  · intro j hj hp
    simp only[Jz,Bool.not_eq_false',decide_eq_true_eq]at hp
    obtain⟨h1,h2,h3⟩:=hp
    cases j with
    | zero=>simp (disch:=omega) only[go_sem,K.eD,↓reduceIte]
    | succ j=>
      have h3:=h3 (by omega)
      rw[Nat.add_sub_cancel]at h3
      simp (disch:=omega) only[go_sem,K.eD,↓reduceIte]
  · intro j hj hp
    simp only[Jz,Bool.not_eq_true',decide_eq_false_iff_not]at hp
    refine⟨?_,by simp⟩
    by_cases h1:lo≤nth l j
    · by_cases h2:nth l j≤hi
      · cases j with
        | zero=>exact absurd ⟨h1,h2,fun h=>absurd h (by omega)⟩ hp
        | succ j=>
          have h3:¬nth l j<nth l (j+1):=fun h=>hp ⟨h1,h2,fun _=>by simpa using h⟩
          simp (disch:=omega) only[go_sem,K.eD,↓reduceIte]
      · simp (disch:=omega) only[go_sem,K.eD,↓reduceIte]
    · simp (disch:=omega) only[go_sem,K.eD,↓reduceIte]
  · simp (disch:=omega) only[go_sem,K.eD,↓reduceIte]
 unfold Oa
 simp (disch:=omega) only[go_sem,K.dZ,↓reduceIte,loop]
 cases hf:(List.range l.length).any (Jz l lo hi)with
 | true=>simp (disch:=omega) only[go_sem,↓reduceIte]
 | false=>simp (disch:=omega) only[go_sem,↓reduceIte,Bool.false_eq_true]
theorem QQ(l:List Int)(n:Int):Oa l 0 (n-1)=sI l n:=by
 unfold Oa sI
 rw[Je]
 refine congrArg (!·) (congrArg _ (funext fun j=>?_))
 unfold Jz
 refine congrArg (!·) (decide_eq_decide.2 ⟨fun h=>⟨h.1,by omega,h.2.2⟩,fun h=>⟨h.1,by omega,h.2.2⟩⟩)
structure XA where
 st:Int
 fi:Int
 se:Int
 ti:Int
abbrev XA.e(s:XA):T:= .agg [tI s.st,tI s.fi,tI s.se,tI s.ti]
structure Mm where
 area:List Int
 hold:Int
 mis:Int
abbrev Mm.e(x:Mm):T:= .agg [tL x.area,tI x.hold,tI x.mis]
structure Keys where
 roads:List Int
 keys:List Int
 out:Bool
abbrev Keys.e(k:Keys):T:= .agg [tL k.roads,tL k.keys,.bool k.out]
end Go.Ev
namespace Go.Ev
open Go
variable [Lib] [cn] [bS] [iE] [iv] [gV] [gW] [kt] [iJ]
theorem GS(x:Int):aN 0 N.bG [I x] []=some (B (!decide (plT x)),[]):=by
 refine ax K.kN rfl ?_
 have i:=I8 x 0 2147483648
 unfold plT inT
 by_cases c:x=1099511627776
 · subst c
   simp (disch:=omega) only[go_sem,K.bG,↓reduceIte,Nat.reduceAdd,Nat.reduceSub]
 · by_cases c2:0≤x∧x≤2147483648
   · simp only[c2,and_self,decide_true]at i
     simp (disch:=omega) only[go_sem,K.bG,↓reduceIte,i,c,c2,false_or,and_self,decide_true,Nat.reduceAdd,Nat.reduceSub]
   · simp only[c2,decide_false]at i
     simp (disch:=omega) only[go_sem,K.bG,↓reduceIte,i,c,c2,false_or,decide_false,Nat.reduceAdd,Nat.reduceSub]
theorem Cr(m:aT)(hm:m.places.length≤1000000)(w:Wh)(hl:w.frm.length≤1000000):aN 0 N.cA [.t m.e,.t w.e] []=some (B (mJ w m.places.length),[]):=by
 refine ax K.mN rfl ?_
 have i:=I8 w.time 0 2147483648
 have cf:aN 0 N.aB [.t (tL w.frm),.fn N.bG []] []=some (B (w.frm.any fun x=> !decide (plT x)),[]):=mH w.frm (by omega) N.bG [] (fun x=> !decide (plT x)) (fun x _=>GS x)
 have e:mJ w m.places.length=(decide ((w.frm.length:Int)=m.places.length∧inT w.time)&& !(w.frm.any fun x=> !decide (plT x))):=by
  unfold mJ
  rw[Je,ye w.frm (fun x=> !decide (plT x))]
 rw[e]
 unfold inT
 generalize (w.frm.any fun x=> !decide (plT x))=r at*
 obtain⟨places,roads⟩:=m
 obtain⟨time,frm⟩:=w
 simp only at*
 clear e
 by_cases c1:(frm.length:Int)=places.length
 · by_cases c2:0≤time∧time≤2147483648
   · simp only[c2,and_self,decide_true]at i
     cases r<;>simp (disch:=omega) only[go_sem,K.cA,↓reduceIte,i,cf,c1,c2,and_self,decide_true,Bool.true_and,Nat.reduceAdd,Nat.reduceSub]
   · simp only[c2,decide_false]at i
     simp (disch:=omega) only[go_sem,K.cA,↓reduceIte,i,cf,c1,c2,and_false,decide_false,Bool.false_and,Nat.reduceAdd,Nat.reduceSub]
 · simp (disch:=omega) only[go_sem,K.cA,↓reduceIte,c1,false_and,decide_false,Bool.false_and,Nat.reduceAdd,Nat.reduceSub]
theorem JA{m:aT}(h:m.ok)(w:Wh)(hl:w.frm.length≤1000000):aN 0 N.ed [.t m.e,.t w.e] []=some (B (cL m w),[]):=by
 refine ax K.nY rfl ?_
 have np:=h.np
 have v:=lq h
 have s:=Cr m (by omega) w hl
 unfold cL
 cases hp:mJ w m.places.length with
 | false=>
   rw[hp]at s
   obtain⟨places,roads⟩:=m
   obtain⟨time,frm⟩:=w
   simp only at*
   simp (disch:=omega) only[go_sem,K.ed,↓reduceIte,v,s,Bool.false_and,Nat.reduceAdd,Nat.reduceSub]
 | true=>
   rw[hp]at s
   obtain⟨p1,p2,p3⟩:=pA hp
   have hb:bnd w.frm:=fun x hx=>kH (p3 x hx)
   have lo:=(zE h w.time (by unfold inT at p2;omega) (by unfold inT at p2;omega) w.frm (by omega) hb).1
   have ll:=kI h w.time p2 none (by simp) (l:=w.frm) (by omega) hb
   have eq:=xi (cD m w.time none w.frm) w.frm (by omega) (by omega)
   generalize cD m w.time none w.frm=c at*
   obtain⟨places,roads⟩:=m
   obtain⟨time,frm⟩:=w
   simp only at*
   clear hb p3
   simp (disch:=omega) only[go_sem,K.ed,↓reduceIte,v,s,lo,eq,Bool.true_and,Nat.reduceAdd,Nat.reduceSub]
def wm(m:aT)(w:Wh)(t:Int):Wh×Int:=if mJ w m.places.length=false then(w,6)else if t<w.time∨2147483648<t then(w,8)else(⟨t,cD m t none w.frm⟩,0)
theorem JB{m:aT}(h:m.ok)(w:Wh)(t:Int)(hl:w.frm.length≤1000000):aN 0 N.di [.t m.e,.t w.e,I t] []=some (.tup [.t (wm m w t).1.e,I (wm m w t).2],[]):=by
 refine ax K.nZ rfl ?_
 have np:=h.np
 have v:=lq h
 have s:=Cr m (by omega) w hl
 unfold wm
 cases hp:mJ w m.places.length with
 | false=>
   rw[hp]at s
   rw[if_pos rfl]
   obtain⟨places,roads⟩:=m
   obtain⟨time,frm⟩:=w
   simp only at*
   simp (disch:=omega) only[go_sem,K.di,↓reduceIte,v,s,Nat.reduceAdd,Nat.reduceSub]
 | true=>
   rw[hp]at s
   obtain⟨p1,p2,p3⟩:=pA hp
   have hb:bnd w.frm:=fun x hx=>kH (p3 x hx)
   unfold inT at p2
   by_cases c1:t<w.time
   · rw[if_neg (by simp),if_pos (.inl c1)]
     obtain⟨places,roads⟩:=m
     obtain⟨time,frm⟩:=w
     simp only at*
     simp (disch:=omega) only[go_sem,K.di,↓reduceIte,v,s,c1,Nat.reduceAdd,Nat.reduceSub]
   · by_cases c2:2147483648<t
     · rw[if_neg (by simp),if_pos (.inr c2)]
       obtain⟨places,roads⟩:=m
       obtain⟨time,frm⟩:=w
       simp only at*
       simp (disch:=omega) only[go_sem,K.di,↓reduceIte,v,s,c1,c2,Nat.reduceAdd,Nat.reduceSub]
     · have lo:=(zE h t (by omega) (by omega) w.frm (by omega) hb).1
       rw[if_neg (by simp),if_neg (by omega)]
       generalize cD m t none w.frm=c at*
       obtain⟨places,roads⟩:=m
       obtain⟨time,frm⟩:=w
       simp only at*
       clear hb p3
       simp (disch:=omega) only[go_sem,K.di,↓reduceIte,v,s,c1,c2,lo,Nat.reduceAdd,Nat.reduceSub]
end Go.Ev
namespace Go.Ev.N
def KZ:Nat:=215
def K0:Nat:=216
def K1:Nat:=217
def QR:Nat:=218
def QS:Nat:=219
def QT:Nat:=220
def S8:Nat:=221
def S9:Nat:=222
def Ta:Nat:=223
def Vq:Nat:=224
def QU:Nat:=225
def QV:Nat:=226
def QW:Nat:=227
def Vr:Nat:=228
def QX:Nat:=229
def QY:Nat:=230
def Tb:Nat:=231
def Ob:Nat:=232
def Tc:Nat:=233
def Oc:Nat:=234
def Od:Nat:=235
def Oe:Nat:=236
def Td:Nat:=237
def Of:Nat:=238
def Vs:Nat:=239
def Vt:Nat:=240
def Ec:Nat:=241
def Te:Nat:=242
def QZ:Nat:=243
def K2:Nat:=244
end Go.Ev.N
namespace Go.Ev.N
def FJ:Nat:=245
def Ed:Nat:=246
def Ee:Nat:=247
def Q0:Nat:=248
def Mn:Nat:=249
def Q1:Nat:=250
def FK:Nat:=251
def K3:Nat:=252
def JC:Nat:=253
def Q2:Nat:=254
def Og:Nat:=255
def Tf:Nat:=256
def eE:Nat:=257
def GU:Nat:=258
def pK:Nat:=259
def bM:Nat:=260
def bg:Nat:=261
def eT:Nat:=262
def aP:Nat:=263
def ae:Nat:=264
def cT:Nat:=265
def qg:Nat:=266
def aM:Nat:=267
def bU:Nat:=268
def au:Nat:=269
def cmp_isNaN_int:Nat:=270
end Go.Ev.N
namespace Go.Ev.N
def GV:Nat:=271
def JD:Nat:=272
def JE:Nat:=273
def HV:Nat:=274
def K4:Nat:=275
def JF:Nat:=276
def Q3:Nat:=277
def Q4:Nat:=278
def Tg:Nat:=279
def Th:Nat:=280
def K5:Nat:=281
def Vu:Nat:=282
def Oh:Nat:=283
def Q5:Nat:=284
def Q6:Nat:=285
def Ti:Nat:=286
def uJ:Nat:=287
def Tj:Nat:=288
def jz:Nat:=289
def fS:Nat:=290
def Q7:Nat:=291
def Q8:Nat:=292
def K6:Nat:=293
def Q9:Nat:=294
def Ra:Nat:=295
def Oi:Nat:=296
def aH:Nat:=297
def aI:Nat:=298
def a8:Nat:=299
def bq:Nat:=300
def az:Nat:=301
def ak:Nat:=302
def aO:Nat:=303
def ay:Nat:=304
def aE:Nat:=305
def a7:Nat:=306
def aJ:Nat:=307
def cQ:Nat:=308
end Go.Ev.N
namespace Go.Ev.N
def Oj:Nat:=309
def b9:Nat:=310
def K7:Nat:=311
def K8:Nat:=312
def JG:Nat:=313
def fh:Nat:=314
def qR:Nat:=315
def fk:Nat:=316
def Rb:Nat:=317
def iF:Nat:=318
def fm:Nat:=319
def Rc:Nat:=320
def lr:Nat:=321
def lu:Nat:=322
def eG:Nat:=323
def cB:Nat:=324
def je:Nat:=325
def XB:Nat:=326
def K9:Nat:=327
def Ol:Nat:=328
def fM:Nat:=329
def aF:Nat:=330
def aK:Nat:=331
def Mo:Nat:=332
def JH:Nat:=333
end Go.Ev.N
namespace Go.Ev.K
open Go.Ev
def jA:C:=(.seq (.ite [m v16,m v6,u (.ln l0),u (.bin .lss l2 l0)] [] 0 .skip (.exit 4)) (.seq (.blk 5 (.ite [f 1 v14,g l0,m v6,m v16,a 1 l1 l0,g l0,a 1 l4 l0,g l0,u (.bin .neq l0 (.i 1099511627776))] [] 0 (.seq (.reg [w 1 (.mv (.b false))] []) .ret) .skip)) (.reg [m v16,u (.bin .add l0 (.i 1)),w 16 (.mv l0)] [])))
def ns:C:= .loop true [0,1,2,3,7,8,9,15] K.jA
def jB:C:=(.seq (.ite [m v13,m v12,u (.ln l0),u (.bin .lss l2 l0)] [] 0 .skip (.exit 2)) (.seq (.blk 3 (.seq (.reg [w 14 (.al [.t (.int .i64 (0)),.nil] []),h 2 v10,m v12,m v13,a 1 l1 l0,g l0,m v5,u (.ca N.dw 0 [] [.l 5,.l 1,.l 0]),m l0,u (.ex l0 0),u (.ex l1 1),u (.st l10 l1 2 []),w 15 (.mv l1)] [(0,8)]) (.seq (.ite [m v15,u (.bin .neq l0 (.i 0))] [] 0 (.seq (.reg [w 1 (.mv (.b false))] []) .ret) .skip) (.seq (.reg [w 16 (.mv (.i 0))] []) (.blk 4 K.ns))))) (.reg [m v13,u (.bin .add l0 (.i 1)),w 13 (.mv l0)] [])))
def nu:C:= .loop true [0,1,2,3,7,8,9,14,15,16] K.jB
def jC:C:=(.seq (.ite [m v11,f 0 v4,g l0,a 2 l0 (.i 0),f 0 l0,g l0,u (.ln l0),u (.bin .lss l6 l0)] [] 0 .skip (.exit 0)) (.seq (.blk 1 (.seq (.reg [h 1 v4,m v11,m v5,u (.ca N.dq 0 [] [.l 2,.l 1,.l 0]),w 12 (.mv l0)] []) (.seq (.reg [w 13 (.mv (.i 0))] []) (.blk 2 K.nu)))) (.reg [m v11,u (.bin .add l0 (.i 1)),w 11 (.mv l0)] [])))
def ny:C:= .loop true [0,1,2,3,7,8,9,12,13,14,15,16] K.jC
def b9:Fn:={ nargs:=1,vars:=[0,2,3,4,5,6,7,8,9,10,11,13,14,15,16,17,18],body:=(.seq (.reg [w 1 (.mv (.b false))] []) (.seq (.ite [m v0,u (.ca N.gL 0 [] [.l 0]),u (.un .not l0)] [] 0 (.seq (.reg [u (.ca N.fh 0 [] []),w 1 (.mv l0)] []) .ret) .skip) (.seq (.reg [m v0,u (.ca N.i9 0 [] [.l 0]),w 2 (.mv l0)] []) (.seq (.reg [m v2,u (.ca N.cj 0 [] [.l 0]),w 3 (.al [.nil,.nil] []),u (.st l0 l1 2 [])] []) (.seq (.reg [m v2,h 2 v3,u (.ca N.bR 0 [] [.l 1,.l 0]),w 4 (.al [.nil] []),u (.st l0 l1 1 [])] []) (.seq (.reg [h 1 v4,u (.ca N.jc 0 [] [.l 0]),m v2,u (.ca N.aA 0 [] [.l 0,.i 90]),u (.bin .add l2 l0),w 5 (.mv l0)] []) (.seq (.reg [m v2,f 0 v3,g l0,u (.ln l0),u (.ca N.bV 0 [] [.l 3,.l 0]),w 6 (.mv l0)] []) (.seq (.reg [h 2 v3,m v6,u (.ca N.eR 0 [] [.l 1,.l 0]),w 7 (.mv l0)] []) (.seq (.reg [h 2 v3,h 1 v4,m v7,m v5,u (.ca N.fk 0 [] [.l 3,.l 2,.l 1,.l 0]),m l0,u (.ex l0 0),u (.ex l1 1),w 8 (.al [.nil] []),u (.st l0 l2 1 []),w 9 (.mv l2)] []) (.seq (.reg [h 2 v3,m v7,u (.ca N.ec 0 [] [.l 1,.l 0]),m l0,u (.ex l0 0),u (.ex l1 1),w 10 (.al [.nil,.nil] []),u (.st l0 l2 2 []),m l2] []) (.seq (.ite [m v9,u (.bin .neq l0 (.i 0))] [] 0 (.seq (.reg [w 1 (.mv (.b false))] []) .ret) .skip) (.seq (.ite [h 1 v8,m v6,u (.ca N.fH 0 [] [.l 1,.l 0]),u (.un .not l0)] [] 0 (.seq (.reg [u (.ca N.fh 0 [] []),w 1 (.mv l0)] []) .ret) .skip) (.seq (.seq (.reg [w 11 (.mv (.i 0))] []) (.blk 0 K.ny)) (.seq (.reg [u (.ca N.fh 0 [] []),w 1 (.mv l0)] []) .ret)))))))))))))),res:=[(1,none)]}
def fh:Fn:={ nargs:=0,vars:=[0,1,2,4,5,6,7,8],body:=(.seq (.reg [w 0 (.mv (.b false))] []) (.seq (.reg [u (.ca N.lr 0 [] []),w 1 (.al [.nil,.nil] []),u (.st l0 l1 2 [])] []) (.seq (.reg [h 2 v1,u (.bs [.i 4] 1),u (.bs [.i 0] 1),u (.ca N.cV 0 [] [.l 2,.l 1,.l 0,.i 0]),m l0,u (.ex l0 0),u (.ex l1 1),w 2 (.al [.nil] []),u (.st l0 l2 1 []),m l2] []) (.seq (.reg [h 2 v1,h 1 v2,u (.bs [.i 1] 1),u (.ca N.fk 0 [] [.l 2,.l 1,.l 0,.i 15]),m l0,u (.ex l0 0),u (.ex l1 1),w 3 (.al [.nil] []),u (.st l0 l2 1 []),w 4 (.mv l2)] []) (.seq (.reg [h 2 v1,u (.ca N.qR 0 [] [.l 0,.i 2,.i 12]),m l0,u (.ex l0 0),u (.ex l1 1),w 5 (.mv l1),w 6 (.mv l1)] []) (.seq (.reg [h 2 v1,u (.bs [.i 2] 1),u (.ca N.iF 0 [] [.l 1,.l 0]),w 7 (.mv l0)] []) (.seq (.reg [m v4,u (.bin .eql l0 (.i 0)),m l0,y 0 true (.ld v3 1 true),y 1 true (.bs [.i 2] 1),y 2 true (.ca N.fH 0 [] [.l 1,.l 0]),u (.pk l3 l0 (.b false)),m l0,y 0 true (.ld v3 1 true),y 1 true (.bs [.i 1] 1),y 2 true (.ca N.fH 0 [] [.l 1,.l 0]),y 3 true (.un .not l0),u (.pk l4 l0 (.b false)),m l0,y 0 true (.mv v6),y 1 true (.bin .eql l0 (.i 0)),u (.pk l2 l0 (.b false)),m l0,y 0 true (.mv v5),y 1 true (.ln l0),y 2 true (.bin .eql l0 (.i 2)),u (.pk l3 l0 (.b false)),m l0,y 0 true (.mv v5),y 1 true (.ia l0 (.i 0) 1),y 2 true (.ld l0 1 false),y 3 true (.bin .eql l0 (.i 1)),u (.pk l4 l0 (.b false)),m l0,y 0 true (.mv v7),y 1 true (.ln l0),y 2 true (.bin .eql l0 (.i 1)),u (.pk l3 l0 (.b false)),m l0,y 0 true (.mv v7),y 1 true (.ia l0 (.i 0) 1),y 2 true (.ld l0 1 false),y 3 true (.bin .eql l0 (.i 1)),u (.pk l4 l0 (.b false)),w 0 (.mv l0)] []) .ret))))))),res:=[(0,none)]}
def Ef:C:=(.its [u (.bin .lss v13 v12)] [] 0 .skip (.exit 3) (.seq (.blk 4 (.seq (.reg [a 10 v11 v13,h 10 l0,w 9 (.al [.t (.int .i64 (0)),.t (.int .i64 (0)),.t (.int .i64 (0)),.t (.int .i64 (0)),.t (.bool false),.t (.bool false),.t (.int .i64 (0)),.t (.int .i64 (0)),.t (.int .i64 (0)),.t (.int .i64 (0))] []),u (.st l0 l1 10 [])] []) (.seq (.reg [g v7,f 0 v9,g l0,a 1 l2 l0,g l0,g v7,f 1 v9,g l0,a 1 l2 l0,g l0,u (.mn [.l 5,.l 0]),f 2 v9,g l0,u (.bin .add l2 l0),w 10 (.mv l0)] []) (.ite [f 5 v9,g l0,u (.un .not l0),m l0,y 0 true (.mv v10),y 1 true (.ld v7 1 false),y 2 true (.fa v9 0),y 3 true (.ld l0 1 false),y 4 true (.ia l2 l0 1),y 5 true (.ld l0 1 false),y 6 true (.ld v7 1 false),y 7 true (.fa v9 1),y 8 true (.ld l0 1 false),y 9 true (.ia l2 l0 1),y 10 true (.ld l0 1 false),y 11 true (.mx [.l 5,.l 0]),y 12 true (.bin .lss l11 l0),u (.pk (.l 13) l0 (.b false))] [] 0 (.seq (.reg [g v7,f 0 v9,g l0,g v7,f 1 v9,g l0,g v7,f 0 v9,g l0,a 1 l2 l0,g l0,m v10,u (.mn [.l 1,.l 0]),g v7,f 1 v9,g l0,a 1 l2 l0,g l0,m v10,u (.mn [.l 1,.l 0]),a 1 (.l 19) (.l 17),u (.st l0 l8 1 []),a 1 (.l 18) (.l 16),u (.st l0 l3 1 [])] [(3,22),(5,22)]) (.reg [w 8 (.mv (.b true))] [])) .skip)))) (.reg [u (.bin .add v13 (.i 1)),w 13 (.mv l0)] [])))
def GW:C:= .loop true [0,1,2,5,6,9,10] K.Ef
def Eg:C:=(.seq (.ite [m v8] [] 0 .skip (.exit 1)) (.blk 2 (.seq (.reg [w 8 (.mv (.b false))] []) (.seq (.reg [f 1 v3,w 11 (.ld l0 1 false),w 12 (.ln l0),w 13 (.mv (.i 0))] []) (.blk 3 K.GW)))))
def GX:C:= .loop true [0,1,2,5,6,9,10,11,12,13] K.Eg
def qR:Fn:={ nargs:=3,vars:=[0,1,2,3,5,6,7,8,9,11,12,38,39,40],body:=(.seq (.reg [w 3 (.bx v0 2),w 4 (.bx v2 1),w 5 (.mv (.c (.nil))),w 6 (.mv (.i 0))] []) (.seq (.blk 0 (.ite [h 2 v3,u (.ca N.dN 0 [] [.l 0]),u (.un .not l0),m l0] [] 0 (.seq (.reg [w 5 (.mv (.c (.nil))),w 6 (.mv (.i 6))] []) .ret) (.ite [m v1,f 0 v3,g l0,u (.ln l0),u (.bin .sub l0 (.i 1)),u (.ca N.eM 0 [] [.l 4,.i 0,.l 0]),u (.un .not l0),m l0] [] 0 (.seq (.reg [w 5 (.mv (.c (.nil))),w 6 (.mv (.i 3))] []) .ret) (.ite [g v4,u (.bin .lss l0 (.i 0)),m l0] [] 0 (.seq (.reg [w 5 (.mv (.c (.nil))),w 6 (.mv (.i 1))] []) .ret) .skip)))) (.seq (.reg [u (.bs [.i 1099511627776] 1),f 0 v3,g l0,u (.ln l0),u (.ca N.bc 1 [] [.l 3,.l 0]),w 7 (.al [.nil] []),u (.st l0 l1 1 [])] []) (.seq (.reg [g v7,m v1,a 1 l1 l0,u (.st l0 (.i 0) 1 [])] []) (.seq (.seq (.reg [w 8 (.mv (.b true))] []) (.blk 1 K.GX)) (.seq (.reg [g v7,u (.ln l0),u (.mf N.lu [.v 7,.v 4]),u (.ca N.dK 0 [] [.l 1,.l 0]),w 5 (.mv l0),w 6 (.mv (.i 0))] []) .ret)))))),res:=[(5,none),(6,none)]}
def pL:C:=(.its [u (.bin .lss (.v 24) v23)] [] 0 .skip (.exit 2) (.seq (.blk 3 (.seq (.reg [m (.v 24),a 2 v22 (.v 24),h 2 l0,w 16 (.al [.t (.int .i64 (0)),.nil] []),w 15 (.mv l3),u (.st l1 l2 2 [])] []) (.seq (.reg [h 2 v9,h 2 v16,g v6,u (.ca N.je 0 [] [.l 2,.l 1,.l 0]),m l0,u (.ex l0 0),u (.ex l1 1),w 17 (.al [.t (.int .i64 (0)),.nil] []),u (.st l0 l2 2 []),w 18 (.mv l2)] []) (.seq (.ite [m v18,u (.bin .neq l0 (.i 0))] [] 0 (.seq (.reg [h 1 v5,m v18,u (.st v7 l1 1 []),w 8 (.mv l1)] []) .ret) .skip) (.reg [f 1 v14,g l0,m v15,h 2 v17,a 2 l2 l1,u (.st l0 l1 2 [])] []))))) (.reg [u (.bin .add (.v 24) (.i 1)),w 24 (.mv l0)] [])))
def wq:C:= .loop true [0,1,2,3,4,8,10,11,13,15,16,17,18] K.pL
def me:C:=(.its [u (.bin .lss v21 v20)] [] 0 .skip (.exit 0) (.seq (.blk 1 (.seq (.reg [a 2 v19 v21,h 2 l0,w 13 (.al [.nil,.nil] []),u (.st l0 l1 2 [])] []) (.seq (.reg [h 2 v13,u (.ca N.cQ 1 [] [.l 0]),w 14 (.al [.nil,.nil] []),u (.st l0 l1 2 [])] []) (.seq (.seq (.reg [f 1 v13,w 22 (.ld l0 1 false),w 23 (.ln l0),w 24 (.mv (.i 0))] []) (.blk 2 K.wq)) (.reg [m v12,h 2 v14,u (.bs [.l 0] 2),u (.app l2 l0 true 2),w 12 (.mv l0)] []))))) (.reg [u (.bin .add v21 (.i 1)),w 21 (.mv l0)] [])))
def wu:C:= .loop true [0,1,2,3,4,8,10,11,13,14,15,16,17,18,22,23,24] K.me
def fk:Fn:={ nargs:=4,vars:=[0,1,2,3,4,5,7,8,9,10,11,12,13,15,16,17,18,19,20,47,48,49,56,57,58],body:=(.seq (.reg [w 4 (.bx v0 2),w 5 (.bx v1 1),w 6 (.bx v3 1),w 7 (.al [.nil] []),w 8 (.mv (.i 0))] []) (.seq (.ite [h 2 v4,h 1 v5,u (.ca N.eE 0 [] [.l 1,.l 0]),u (.un .not l0)] [] 0 (.seq (.reg [h 1 v5,u (.st v7 l0 1 []),w 8 (.mv (.i 6))] []) .ret) .skip) (.seq (.reg [h 2 v4,m v2,u (.ca N.fm 0 [] [.l 1,.l 0]),m l0,u (.ex l0 0),u (.ex l1 1),w 9 (.al [.nil,.nil] []),u (.st l0 l2 2 []),w 10 (.mv l2)] []) (.seq (.ite [m v10,u (.bin .neq l0 (.i 0))] [] 0 (.seq (.reg [h 1 v5,m v10,u (.st v7 l1 1 []),w 8 (.mv l1)] []) .ret) .skip) (.seq (.reg [u (.mf N.eG [.v 6]),w 11 (.mv l0)] []) (.seq (.ite [g v6,u (.bin .gtr l0 (.i 2147483648)),m l0,y 0 false (.fa v5 0),y 1 false (.ld l0 1 false),y 2 false (.mv v11),y 3 false (.ca N.av 0 [] [.l 1,.l 0]),u (.pk l4 (.b true) l0)] [] 0 (.seq (.reg [h 1 v5,u (.st v7 l0 1 []),w 8 (.mv (.i 8))] []) .ret) .skip) (.seq (.reg [w 12 (.nw 2)] []) (.seq (.seq (.reg [f 0 v5,w 19 (.ld l0 1 false),w 20 (.ln l0),w 21 (.mv (.i 0))] []) (.blk 0 K.wu)) (.seq (.reg [m v12,u (.ca N.fS 0 [] [.l 0]),u (.bd [.nil] [(0,1,.l 0)]),u (.st v7 l0 1 []),w 8 (.mv (.i 0))] []) .ret))))))))),res:=[(7,some (1,true)),(8,none)]}
def iF:Fn:={ nargs:=2,vars:=[0,1,2,3,4],body:=(.seq (.reg [w 2 (.bx v0 2),w 3 (.bx v1 1),w 4 (.mv (.c (.nil)))] []) (.seq (.reg [f 1 v2,g l0,u (.ln l0),u (.mf N.fM [.v 2,.v 3]),u (.ca N.dK 0 [] [.l 1,.l 0]),w 4 (.mv l0)] []) .ret)),res:=[(4,none)]}
def mQ:C:=(.its [u (.bin .lss v9 v8)] [] 0 .skip (.exit 1) (.seq (.blk 2 (.seq (.reg [a 1 v7 v9,g l0,w 6 (.mv l0)] []) (.reg [f 1 v5,g l0,m v6,a 10 l1 l0,f 4 l0,u (.st l0 (.b false) 1 [])] []))) (.reg [u (.bin .add v9 (.i 1)),w 9 (.mv l0)] [])))
def rY:C:= .loop true [0,1,2,4,6] K.mQ
def fm:Fn:={ nargs:=2,vars:=[0,1,2,4,5,6,8,30,31,32],body:=(.seq (.reg [w 2 (.bx v0 2),w 3 (.al [.nil,.nil] []),w 4 (.mv (.i 0))] []) (.seq (.blk 0 (.ite [h 2 v2,u (.ca N.dN 0 [] [.l 0]),u (.un .not l0),m l0] [] 0 (.seq (.reg [u (.bd [.nil,.nil] []),u (.st v3 l0 2 []),w 4 (.mv (.i 6))] []) .ret) (.ite [m v1,f 1 v2,g l0,u (.ln l0),u (.bin .sub l0 (.i 1)),u (.ca N.dZ 0 [] [.l 4,.i 0,.l 0]),u (.un .not l0),m l0] [] 0 (.seq (.reg [u (.bd [.nil,.nil] []),u (.st v3 l0 2 []),w 4 (.mv (.i 4))] []) .ret) .skip))) (.seq (.reg [w 5 (.al [.nil,.nil] []),f 0 v2,g l0,u (.ca N.aF 0 [] [.l 0]),f 1 v2,g l0,u (.ca N.aK 1 [] [.l 0]),u (.bd [.nil,.nil] [(0,1,.l 3),(1,1,.l 0)]),u (.st l7 l0 2 [])] [(0,4),(0,7),(5,1)]) (.seq (.seq (.reg [w 7 (.mv v1),w 8 (.ln l0),w 9 (.mv (.i 0))] []) (.blk 1 K.rY)) (.seq (.reg [h 2 v5,u (.st v3 l0 2 []),w 4 (.mv (.i 0))] []) .ret))))),res:=[(3,some (2,true)),(4,none)]}
def lr:Fn:={ nargs:=0,vars:=[0,1,2,3],body:=(.seq (.reg [w 0 (.al [.nil,.nil] [])] []) (.seq (.reg [u (.bd [.t (.int .i64 (0)),.t (.int .i64 (0))] [(0,1,.i 1),(1,1,.i 1)]),u (.bd [.t (.int .i64 (0)),.t (.int .i64 (0)),.t (.int .i64 (0)),.t (.int .i64 (0)),.t (.bool false),.t (.bool false),.t (.int .i64 (0)),.t (.int .i64 (0)),.t (.int .i64 (0)),.t (.int .i64 (0))] [(2,1,.i 12),(3,1,.i 1),(4,1,.b true),(6,2,.l 0)]),w 1 (.al [.t (.int .i64 (0)),.t (.int .i64 (0)),.t (.int .i64 (0)),.t (.int .i64 (0)),.t (.bool false),.t (.bool false),.t (.int .i64 (0)),.t (.int .i64 (0)),.t (.int .i64 (0)),.t (.int .i64 (0))] []),u (.st l0 l1 10 [])] []) (.seq (.reg [w 2 (.al [.t (.int .i64 (0)),.t (.int .i64 (0)),.t (.int .i64 (0)),.t (.int .i64 (0)),.t (.bool false),.t (.bool false),.t (.int .i64 (0)),.t (.int .i64 (0)),.t (.int .i64 (0)),.t (.int .i64 (0))] []),w 3 (.al [.t (.int .i64 (0)),.t (.int .i64 (0)),.t (.int .i64 (0)),.t (.int .i64 (0)),.t (.bool false),.t (.bool false),.t (.int .i64 (0)),.t (.int .i64 (0)),.t (.int .i64 (0)),.t (.int .i64 (0))] []),h 10 v1,h 10 v1,u (.st l3 l1 10 []),u (.st l3 l1 10 [])] [(3,5)]) (.seq (.reg [f 1 v2,u (.st l0 (.i 1) 1 []),f 0 v3,u (.st l0 (.i 1) 1 []),f 1 v3,u (.st l0 (.i 2) 1 [])] []) (.seq (.reg [u (.bd [.t (.int .i64 (0)),.t (.bool false)] [(1,1,.b true)]),u (.bd [.t (.int .i64 (0)),.t (.bool false)] []),u (.bd [.t (.int .i64 (0)),.t (.bool false)] []),u (.bs [.l 2,.l 1,.l 0] 2),h 10 v2,h 10 v3,u (.bs [.l 1,.l 0] 10),u (.bd [.nil,.nil] [(0,1,.l 3),(1,1,.l 0)]),u (.st v0 l0 2 [])] []) .ret))))),res:=[(0,some (2,true))]}
def lu:Fn:={ nargs:=3,vars:=[0,1,2,4],body:=(.seq (.reg [w 3 (.mv (.b false))] []) (.seq (.reg [g v1,m v0,a 1 l1 l0,g l0,u (.bin .lss l0 (.i 1099511627776)),m l0,y 0 true (.ld v1 1 false),y 1 true (.mv v0),y 2 true (.ia l1 l0 1),y 3 true (.ld l0 1 false),y 4 true (.ld v2 1 false),y 5 true (.bin .leq l1 l0),u (.pk l6 l0 (.b false)),w 3 (.mv l0)] []) .ret)),res:=[(3,none)]}
def eG:Fn:={ nargs:=2,vars:=[0,1,2,3],body:=(.seq (.reg [w 2 (.bx v0 2),w 3 (.mv (.b false))] []) (.seq (.reg [f 1 v2,g l0,u (.mf N.cB [.v 1]),u (.ca N.ae 0 [] [.l 1,.l 0]),w 3 (.mv l0)] []) .ret)),res:=[(3,none)]}
def cB:Fn:={ nargs:=2,vars:=[0,1,2,3],body:=(.seq (.reg [w 2 (.bx v0 2),w 3 (.mv (.b false))] []) (.seq (.reg [g v1,f 0 v2,g l0,u (.bin .lss l2 l0),w 3 (.mv l0)] []) .ret)),res:=[(3,none)]}
def pM:C:=(.its [u (.bin .lss v11 v10)] [] 0 .skip (.exit 0) (.seq (.blk 1 (.seq (.reg [a 1 v9 v11,g l0,w 8 (.mv l0)] []) (.reg [m v7,m v8,f 1 v4,g l0,m v8,a 1 l1 l0,g l0,a 1 l6 l5,u (.st l0 l1 1 [])] []))) (.reg [u (.bin .add v11 (.i 1)),w 11 (.mv l0)] [])))
def wy:C:= .loop true [0,1,6,8] K.pM
def je:Fn:={ nargs:=3,vars:=[0,1,2,3,4,6,7,8,10,18,19,20],body:=(.seq (.reg [w 3 (.bx v0 2),w 4 (.bx v1 2),w 5 (.al [.t (.int .i64 (0)),.nil] []),w 6 (.mv (.i 0))] []) (.seq (.reg [u (.bs [.i 1099511627776] 1),f 1 v4,g l0,u (.ln l0),u (.ca N.bc 1 [] [.l 3,.l 0]),w 7 (.mv l0)] []) (.seq (.seq (.reg [h 2 v4,m v2,w 9 (.ca N.cM 0 [] [.l 1,.l 0]),w 10 (.ln l0),w 11 (.mv (.i 0))] []) (.blk 0 K.wy)) (.seq (.reg [h 2 v3,f 0 v4,g l0,m v7,u (.bd [.t (.int .i64 (0)),.nil] [(0,1,.l 1),(1,1,.l 0)]),m v2,u (.ca N.di 0 [] [.l 5,.l 1,.l 0]),u (.ex l0 0),u (.ex l1 1),u (.st v5 l1 2 []),w 6 (.mv l1)] []) .ret)))),res:=[(5,some (2,true)),(6,none)]}
end Go.Ev.K
namespace Go.Ev
class oK [Lib]:Prop where
 kO:Lib.fs N.b9=some K.b9
 um:Lib.fs N.fh=some K.fh
 Cs:Lib.fs N.qR=some K.qR
 sR:Lib.fs N.fk=some K.fk
 uo:Lib.fs N.iF=some K.iF
 pN:Lib.fs N.fm=some K.fm
 yi:Lib.fs N.lr=some K.lr
 yj:Lib.fs N.lu=some K.lu
 pO:Lib.fs N.eG=some K.eG
 mR:Lib.fs N.cB=some K.cB
 sT:Lib.fs N.je=some K.je
namespace K
variable [Lib] [oK]
theorem kO:Lib.fs N.b9=some K.b9:=oK.kO
theorem um:Lib.fs N.fh=some K.fh:=oK.um
theorem Cs:Lib.fs N.qR=some K.qR:=oK.Cs
theorem sR:Lib.fs N.fk=some K.fk:=oK.sR
theorem uo:Lib.fs N.iF=some K.iF:=oK.uo
theorem pN:Lib.fs N.fm=some K.fm:=oK.pN
theorem yi:Lib.fs N.lr=some K.lr:=oK.yi
theorem yj:Lib.fs N.lu=some K.lu:=oK.yj
theorem pO:Lib.fs N.eG=some K.eG:=oK.pO
theorem mR:Lib.fs N.cB=some K.cB:=oK.mR
theorem sT:Lib.fs N.je=some K.je:=oK.sT
end K
end Go.Ev
namespace Go.Ev.K
open Go.Ev
def fM:Fn:={ nargs:=3,vars:=[0,1,2,4,5],body:=(.seq (.reg [w 3 (.mv (.b false))] []) (.seq (.reg [f 1 v1,g l0,m v0,a 10 l1 l0,h 10 l0,w 4 (.al [.t (.int .i64 (0)),.t (.int .i64 (0)),.t (.int .i64 (0)),.t (.int .i64 (0)),.t (.bool false),.t (.bool false),.t (.int .i64 (0)),.t (.int .i64 (0)),.t (.int .i64 (0)),.t (.int .i64 (0))] []),u (.st l0 l1 10 [])] []) (.seq (.reg [g v2,f 0 v4,g l0,u (.ca N.aR 0 [] [.l 2,.l 0]),g v2,f 1 v4,g l0,u (.ca N.aR 0 [] [.l 2,.l 0]),u (.eqk (.bool) true l4 l0),m l0,y 0 true (.ld v1 2 true),y 1 true (.mv v0),y 2 true (.ca N.gI 0 [] [.l 1,.l 0,.b false]),y 3 true (.bin .geq l0 (.i 0)),y 4 true (.mv l0),y 0 false (.ld v1 2 true),y 1 false (.mv v0),y 2 false (.ca N.gI 0 [] [.l 1,.l 0,.b true]),y 3 false (.bin .geq l0 (.i 0)),y 9 true (.pk l4 (.b true) l0),u (.pk l10 l0 (.b false)),w 3 (.mv l0)] [(4,0),(6,0)]) .ret))),res:=[(3,none)]}
def aF:Fn:={ nargs:=1,vars:=[0,2],body:=(.seq (.reg [w 1 (.mv (.c (.nil)))] []) (.itk [m v0,u (.eqk (.sl) false l0 (.c (.nil)))] [] 0 (.seq (.reg [w 1 (.nw 2)] []) .ret) .skip (.seq (.reg [u (.bsr [] 2),m v0,u (.app l1 l0 false 2),w 1 (.mv l0)] []) .ret))),res:=[(1,none)]}
def aK:Fn:={ nargs:=1,vars:=[0,2],body:=(.seq (.reg [w 1 (.mv (.c (.nil)))] []) (.itk [m v0,u (.eqk (.sl) false l0 (.c (.nil)))] [] 0 (.seq (.reg [w 1 (.nw 10)] []) .ret) .skip (.seq (.reg [u (.bsr [] 10),m v0,u (.app l1 l0 false 10),w 1 (.mv l0)] []) .ret))),res:=[(1,none)]}
end Go.Ev.K
namespace Go.Ev
class wK [Lib]:Prop where
 qS:Lib.fs N.fM=some K.fM
 dm:Lib.fs N.aF=some K.aF
 dF:Lib.fs N.aK=some K.aK
namespace K
variable [Lib] [wK]
theorem qS:Lib.fs N.fM=some K.fM:=wK.qS
theorem dm:Lib.fs N.aF=some K.aF:=wK.dm
theorem dF:Lib.fs N.aK=some K.aK:=wK.dF
end K
end Go.Ev
namespace Go.Ev
open Go
variable [Lib] [cn] [bS] [iE] [iv] [gV] [gW] [kt] [iJ] [oK] [wK]
abbrev Mp(l:List Int):Obj:= .arr 1 false 0 ((l.map (T.int .i64)).map .t)
end Go.Ev
namespace Go.Ev
open Go
variable [Lib] [cn] [bS]
@[go_sem] theorem Re (l : List Place) : sA 2 (l.map Place.e) = true := by cases l <;> rfl
@[go_sem] theorem Tk (l : List Road) : sA 10 (l.map Road.e) = true := by cases l <;> rfl
@[go_sem] theorem Tl (H : aj) (d : aC) : Lz H 0 1 false (some d.obj) = some (.t (tL d.L), H) := by simp only [aC.obj, go_sem]
def aC.ef(d:aC):Nat→List Place×aC
 | 0=>([],d)
 | k+1=>if k=0 then((d.ef k).1++[⟨-10*((d.ef k).2.next 4).1,true⟩],((d.ef k).2.next 4).2)
   else((d.ef k).1++[⟨-10*((d.ef k).2.next 4).1,(((d.ef k).2.next 4).2.one 6).1⟩],(((d.ef k).2.next 4).2.one 6).2)
def aC.GY(d:aC)(i:Int):Road×aC:=
 (⟨i-1-(d.next (min i 2)).1,i,1+((d.next (min i 2)).2.of [11,59,119,4]).1,1+(((d.next (min i 2)).2.of [11,59,119,4]).2.of [9,3,19]).1,true,false,1,1,0,0⟩,
   (((d.next (min i 2)).2.of [11,59,119,4]).2.of [9,3,19]).2)
def aC.ke(d:aC):Nat→List Road×aC
 | 0=>([],d)
 | k+1=>((d.ke k).1++[((d.ke k).2.GY (k+1)).1],((d.ke k).2.GY (k+1)).2)
def aC.pP(d:aC)(n:Int):Road×aC:=
 let a:=d.next n
 let b:=a.2.next n
 let l:=b.2.of [11,59,199]
 let r:=l.2.of [9,3]
 let w:=r.2.next 5
 let c:=w.2.one 6
 (⟨a.1,b.1,1+l.1,1+r.1,decide (0<w.1),c.1,1,1,0,0⟩,c.2)
def aC.more(n:Int)(l:List Road)(d:aC):Nat→List Road×aC
 | 0=>(l,d)
 | k+1=>if l.length<10 then aC.more n (if(d.pP n).1.frm=(d.pP n).1.to then l else l++[(d.pP n).1]) (d.pP n).2 k else(l,d)
def aC.sU(d:aC):Nat:=if d.L.length=0 then 4 else(2+(d.next 6).1).toNat
def aC.JI(d:aC):List Place×aC:=(d.next 6).2.ef d.sU
def aC.AJ(d:aC):List Road×aC:=d.JI.2.ke (d.sU-1)
def aC.Mq(d:aC):List Road×aC:=aC.more d.sU d.AJ.1 (d.AJ.2.next 4).2 (d.AJ.2.next 4).1.toNat
def aC.Om(d:aC):aT×aC:=(⟨d.JI.1,d.Mq.1⟩,d.Mq.2)
theorem aC.kf{d:aC}(h:d.dU):∀n,(d.ef n).2.dU
 | 0=>h
 | n+1=>by
   unfold aC.ef
   split
   · exact aC.aV (aC.kf h n) 4
   · exact aC.B8 (aC.aV (aC.kf h n) 4) 6
theorem aC.pQ(d:aC):∀n,(d.ef n).1.length=n
 | 0=>rfl
 | n+1=>by
   unfold aC.ef
   split<;>simp[d.pQ n]
theorem aC.Eh{d:aC}(h:d.dU)(i:Int):(d.GY i).2.dU:=aC.px (aC.px (aC.aV h _) _) _
theorem aC.nB{d:aC}(h:d.dU):∀n,(d.ke n).2.dU
 | 0=>h
 | n+1=>aC.Eh (aC.nB h n) _
theorem aC.rB(d:aC):∀n,(d.ke n).1.length=n
 | 0=>rfl
 | n+1=>by simp[aC.ke,d.rB n]
theorem aC.yk{d:aC}(h:d.dU)(n:Int):(d.pP n).2.dU:=by
 unfold aC.pP;simp only
 exact aC.B8 (aC.aV (aC.px (aC.px (aC.aV (aC.aV h _) _) _) _) _) _
theorem aC.zF(n:Int):∀(k:Nat) (l:List Road) {d:aC},d.dU→(aC.more n l d k).2.dU
 | 0,l,d,h=>h
 | k+1,l,d,h=>by
   unfold aC.more
   split
   · exact aC.zF n k _ (aC.yk h n)
   · exact h
theorem aC.GZ{d:aC}(h:d.dU):d.Om.2.dU:=
 aC.zF _ _ _ (aC.aV (aC.nB (aC.kf (aC.aV h _) _) _) _)
abbrev AK:List D:=[I 0,I 0,I 12,I 10,B true,B false,I 1,I 1,I 0,I 0]
theorem G0(d:aC)(hd:d.dU)(n:Nat)(hn:n≤8)(a b c e f:D):
 exS aN K.ox ⟨[.bp 0 0,.bp 1 0,.bp 2 0,I n,I 0,a,b,c,e,f],[d.obj,.box [.nil,.nil],.box [.ref 3 0 0,.ref 4 0 0],.arr 2 false 0 [],.arr 10 false 0 []]⟩=
 some (.exit 0,⟨[.bp 0 0,.bp 1 0,.bp 2 0,I n,I n,.und,.und,.und,.und,.und],[(d.ef n).2.obj,.box [.nil,.nil],.box [.ref 3 0 (d.ef n).1.length,.ref 4 0 0],.arr 2 false 0 (((d.ef n).1.map Place.e).map .t),.arr 10 false 0 []]⟩):=by
 refine b5 (fun j=>⟨[.bp 0 0,.bp 1 0,.bp 2 0,I n,I j,.und,.und,.und,.und,.und],[(d.ef j).2.obj,.box [.nil,.nil],.box [.ref 3 0 (d.ef j).1.length,.ref 4 0 0],.arr 2 false 0 (((d.ef j).1.map Place.e).map .t),.arr 10 false 0 []]⟩) n rfl ?_ ?_ (by simp)
 · intro j hj
   have ln:=d.pQ j
   have lt:=aC.kf hd j
   simp only[aC.ef]
   generalize d.ef j=s at*
   obtain⟨l,d1⟩:=s
   simp only at ln lt ⊢
   have h1:=fR d1 4 (by omega) lt
   have b1:=d1.dD 4
   have b2:=d1.dE (n:=4) (by omega)
   have l1:=aC.aV lt 4
   generalize d1.next 4=a1 at*
   obtain⟨x,d2⟩:=a1
   simp only at h1 b1 b2 l1 ⊢
   by_cases j0:j=0
   · subst j0
     simp (disch:=omega) only[go_sem,K.ig,h1,↓reduceIte,Nat.reduceAdd,Nat.reduceSub]
   · have h2:=NB d2 6 (by omega) (by omega) l1
     simp (disch:=omega) only[go_sem,K.ig,h1,h2,j0,↓reduceIte,Nat.reduceAdd,Nat.reduceSub]
 · simp (disch:=omega) only[go_sem,K.ig,↓reduceIte]
theorem G1(d:aC)(hd:d.dU)(n:Nat)(hn:n≤8)(h1:1≤n)(ps:List Place)(a b c e:D):
 exS aN K.oy ⟨[.bp 0 0,.bp 1 0,.bp 2 0,I n,a,.bp 5 0,I 1,b,c,e],[d.obj,.box [.nil,.nil],.box [.ref 3 0 ps.length,.ref 4 0 0],.arr 2 false 0 ((ps.map Place.e).map .t),.arr 10 false 0 [],.box AK]⟩=
 some (.exit 2,⟨[.bp 0 0,.bp 1 0,.bp 2 0,I n,.und,.bp 5 0,I n,.und,.und,.und],[(d.ke (n-1)).2.obj,.box [.nil,.nil],.box [.ref 3 0 ps.length,.ref 4 0 (d.ke (n-1)).1.length],.arr 2 false 0 ((ps.map Place.e).map .t),.arr 10 false 0 (((d.ke (n-1)).1.map Road.e).map .t),.box AK]⟩):=by
 refine b5 (fun j=>⟨[.bp 0 0,.bp 1 0,.bp 2 0,I n,.und,.bp 5 0,I (j+1),.und,.und,.und],[(d.ke j).2.obj,.box [.nil,.nil],.box [.ref 3 0 ps.length,.ref 4 0 (d.ke j).1.length],.arr 2 false 0 ((ps.map Place.e).map .t),.arr 10 false 0 (((d.ke j).1.map Road.e).map .t),.box AK]⟩) (n-1) rfl ?_ ?_ (by simp)
 · intro j hj
   have ln:=d.rB j
   have lt:=aC.nB hd j
   simp only[aC.ke]
   generalize d.ke j=s at*
   obtain⟨l,d1⟩:=s
   simp only[aC.GY]at ln lt ⊢
   have h1:=fR d1 (min ((j:Int)+1) 2) (by omega) lt
   have b1:=d1.dD (min ((j:Int)+1) 2)
   have b2:=d1.dE (n:=min ((j:Int)+1) 2) (by omega)
   have l1:=aC.aV lt (min ((j:Int)+1) 2)
   generalize d1.next (min ((j:Int)+1) 2)=a1 at*
   obtain⟨x,d2⟩:=a1
   simp only at h1 b1 b2 l1 ⊢
   have h2:=LV d2 [11,59,119,4] (by simp) (by simp) l1
   have m2:=d2.vV (l:=[11,59,119,4]) (by simp)
   have l2:=aC.px l1 [11,59,119,4]
   generalize d2.of [11,59,119,4]=a2 at*
   obtain⟨y,d3⟩:=a2
   simp only[tL,List.map_cons,List.map_nil]at h2 m2 l2 ⊢
   have h3:=LV d3 [9,3,19] (by simp) (by simp) l2
   have m3:=d3.vV (l:=[9,3,19]) (by simp)
   generalize d3.of [9,3,19]=a3 at*
   obtain⟨z,d4⟩:=a3
   simp only[tL,List.map_cons,List.map_nil,List.mem_cons,List.not_mem_nil,or_false]at h3 m2 m3 ⊢
   simp (disch:=omega) only[go_sem,K.j4,h1,h2,h3,↓reduceIte,Nat.reduceAdd,Nat.reduceSub]
 · simp (disch:=omega) only[go_sem,K.j4,↓reduceIte]
   rw[show((n-1:Nat):Int)+1=n by omega]
abbrev Ct(d:aC)(ps:List Place)(l:List Road):aj:=[d.obj,.box [.nil,.nil],.box [.ref 3 0 ps.length,.ref 4 0 l.length],.arr 2 false 0 ((ps.map Place.e).map .t),.arr 10 false 0 ((l.map Road.e).map .t),.box AK]
theorem G2(d:aC)(hd:d.dU)(n:Int)(hn:1≤n)(hn2:n≤8)(ps:List Place)(l:List Road)(hl:l.length<10)(k:Nat)(hk:k≤10):
 fJ true [4,6,7,9] 6 (exS aN K.dy ⟨[.bp 0 0,.bp 1 0,.bp 2 0,I n,.und,.bp 5 0,.und,.und,I (k+1),.und],Ct d ps l⟩)=
 some ⟨[.bp 0 0,.bp 1 0,.bp 2 0,I n,.und,.bp 5 0,.und,.und,I k,.und],Ct (d.pP n).2 ps (if(d.pP n).1.frm=(d.pP n).1.to then l else l++[(d.pP n).1])⟩:=by
 unfold aC.pP Ct
 simp only
 have h1:=fR d n (by omega) hd
 have l1:=aC.aV hd n
 generalize d.next n=a1 at*
 obtain⟨x1,d1⟩:=a1
 simp only at h1 l1 ⊢
 have h2:=fR d1 n (by omega) l1
 have l2:=aC.aV l1 n
 generalize d1.next n=a2 at*
 obtain⟨x2,d2⟩:=a2
 simp only at h2 l2 ⊢
 have h3:=LV d2 [11,59,199] (by simp) (by simp) l2
 have m3:=d2.vV (l:=[11,59,199]) (by simp)
 have l3:=aC.px l2 [11,59,199]
 generalize d2.of [11,59,199]=a3 at*
 obtain⟨x3,d3⟩:=a3
 simp only[tL,List.map_cons,List.map_nil]at h3 m3 l3 ⊢
 have h4:=LV d3 [9,3] (by simp) (by simp) l3
 have m4:=d3.vV (l:=[9,3]) (by simp)
 have l4:=aC.px l3 [9,3]
 generalize d3.of [9,3]=a4 at*
 obtain⟨x4,d4⟩:=a4
 simp only[tL,List.map_cons,List.map_nil]at h4 m4 l4 ⊢
 have h5:=fR d4 5 (by omega) l4
 have l5:=aC.aV l4 5
 generalize d4.next 5=a5 at*
 obtain⟨x5,d5⟩:=a5
 simp only at h5 l5 ⊢
 have h6:=NB d5 6 (by omega) (by omega) l5
 generalize d5.one 6=a6 at*
 obtain⟨x6,d6⟩:=a6
 simp only[List.mem_cons,List.not_mem_nil,or_false]at h6 m3 m4 ⊢
 by_cases e:x1=x2
 · simp (disch:=omega) only[go_sem,K.dy,h1,h2,h3,h4,h5,h6,e,↓reduceIte,Nat.reduceAdd,Nat.reduceSub]
 · simp (disch:=omega) only[go_sem,K.dy,h1,h2,h3,h4,h5,h6,e,↓reduceIte,Nat.reduceAdd,Nat.reduceSub]
theorem zG(n:Int)(hn:1≤n)(hn2:n≤8)(ps:List Place):∀(k:Nat) (d:aC) (l:List Road),d.dU→l.length≤10→k≤10→
 ∃z:Int,mz true [4,6,7,9] (exS aN K.dy) ⟨[.bp 0 0,.bp 1 0,.bp 2 0,I n,.und,.bp 5 0,.und,.und,I k,.und],Ct d ps l⟩=
 some (.exit 4,⟨[.bp 0 0,.bp 1 0,.bp 2 0,I n,.und,.bp 5 0,.und,.und,I z,.und],Ct (aC.more n l d k).2 ps (aC.more n l d k).1⟩)
 | 0,d,l,hd,hl,hk=>by
   refine⟨0,c7 ?_ (by simp)⟩
   simp (disch:=omega) only[go_sem,K.dy,aC.more,↓reduceIte,Nat.reduceAdd,Nat.reduceSub]
 | k+1,d,l,hd,hl,hk=>by
   by_cases h:l.length<10
   · have hr:=G2 d hd n hn hn2 ps l h k (by omega)
     obtain⟨z,hz⟩:=zG n hn hn2 ps k (d.pP n).2 (if(d.pP n).1.frm=(d.pP n).1.to then l else l++[(d.pP n).1]) (aC.yk hd n) (by split<;>(try rw[List.length_append,List.length_singleton])<;>omega) (by omega)
     refine⟨z,jO hr ?_⟩
     rw[hz]
     simp only[aC.more,if_pos h]
   · refine⟨(k:Int)+1,c7 ?_ (by simp)⟩
     simp (disch:=omega) only[go_sem,K.dy,aC.more,↓reduceIte,Nat.reduceAdd,Nat.reduceSub]
theorem aC.FL(n:Int):∀(k:Nat) (l:List Road) (d:aC),l.length≤10→(aC.more n l d k).1.length≤10
 | 0,l,d,h=>h
 | k+1,l,d,h=>by
   unfold aC.more
   split
   · exact aC.FL n k _ _ (by split<;>(try rw[List.length_append,List.length_singleton])<;>omega)
   · exact h
theorem aC.xj(d:aC):2≤d.sU∧d.sU≤7:=by
 unfold aC.sU
 have:=d.dD 6
 have:=d.dE (n:=6) (by omega)
 split<;>omega
theorem Rf(d:aC)(hd:d.dU):aN 0 N.cj [.bp 0 0] [d.obj]=some (.t d.Om.1.e,[d.Om.2.obj]):=by
 refine ax K.lC rfl ?_
 have nb:=d.xj
 unfold aC.Om
 have h0:=fR d 6 (by omega) hd
 have l0:=aC.aV hd 6
 have b1:=d.dD 6
 have b2:=d.dE (n:=6) (by omega)
 have hL:=d.NA 6
 have hN:(d.sU:Int)=if d.L.length=0 then 4 else 2+(d.next 6).1:=by unfold aC.sU;split<;>omega
 have e1:d.Mq=aC.more d.sU d.AJ.1 (d.AJ.2.next 4).2 (d.AJ.2.next 4).1.toNat:=rfl
 have e2:d.AJ=d.JI.2.ke (d.sU-1):=rfl
 have e3:d.JI=(d.next 6).2.ef d.sU:=rfl
 generalize d.Mq=X at*
 generalize d.AJ=R at*
 generalize d.JI=P at*
 generalize d.sU=n at*
 generalize d.next 6=a at*
 obtain⟨x,d1⟩:=a
 simp only at h0 l0 b1 b2 hL hN e3 ⊢
 have q1:=G0 d1 l0 n (by omega)
 have lP:=aC.kf l0 n
 have nP:=d1.pQ n
 rw[← e3]at q1 lP nP
 obtain⟨ps,d2⟩:=P
 simp only at q1 lP nP e2 ⊢
 have q2:=G1 d2 lP n (by omega) (by omega) ps
 have lR:=aC.nB lP (n-1)
 have nR:=d2.rB (n-1)
 rw[← e2]at q2 lR nR
 obtain⟨rs,d3⟩:=R
 simp only at q2 lR nR e1 ⊢
 have h4:=fR d3 4 (by omega) lR
 have l4:=aC.aV lR 4
 have b3:=d3.dD 4
 have b4:=d3.dE (n:=4) (by omega)
 generalize d3.next 4=c at*
 obtain⟨y,d4⟩:=c
 simp only at h4 l4 b3 b4 e1 ⊢
 obtain⟨z,q3⟩:=zG n (by omega) (by omega) ps y.toNat d4 rs l4 (by omega) (by omega)
 rw[← e1]at q3
 have q3:=uZ (vs:=[.bp 0 0,.bp 1 0,.bp 2 0,I n,.und,.bp 5 0,I n,.und,I y.toNat,.und]) q3
 have ey:(y.toNat:Int)=y:=by omega
 rw[ey]at q3
 obtain⟨xs,d5⟩:=X
 have fin:∀k:Int,(exS aN K.oz ⟨[.bp 0 0,.bp 1 0,.bp 2 0,I n,.und,.bp 5 0,I n,.und,I y,.und],Ct d4 ps rs⟩)=
  some (.exit 4,⟨[.bp 0 0,.bp 1 0,.bp 2 0,I n,.und,.bp 5 0,.und,.und,I z,.und],Ct d5 ps xs⟩):=fun _=>q3
 clear q3
 have q3:=fin 0
 clear fin
 simp only[Ct]at q3
 by_cases c0:d.L.length=0
 · rw[if_pos c0]at hN
   obtain rfl:n=4:=by omega
   have e4:((4:Nat):Int)=4:=rfl
   simp only[e4]at q1 q2 q3
   simp (disch:=omega) only[go_sem,K.cj,↓reduceIte,h0,c0,q1,q2,q3,h4,hL,Nat.reduceAdd,Nat.reduceSub]
 · rw[if_neg c0]at hN
   simp (disch:=omega) only[go_sem,K.cj,↓reduceIte,h0,c0,q1,q2,q3,h4,hL,hN.symm,Nat.reduceAdd,Nat.reduceSub]
theorem aC.Mr(d:aC){n:Nat}{i:Int}(h1:1≤i)(h2:i<n):(d.GY i).1.ok n:=by
 have b1:=d.dD (min i 2)
 have b2:=d.dE (n:=min i 2) (by omega)
 have m2:=(d.next (min i 2)).2.vV (l:=[11,59,119,4]) (by simp)
 have m3:=((d.next (min i 2)).2.of [11,59,119,4]).2.vV (l:=[9,3,19]) (by simp)
 simp only[List.mem_cons,List.not_mem_nil,or_false]at m2 m3
 unfold aC.GY
 constructor<;>(simp only;omega)
theorem aC.Cu(d:aC){n:Nat}:∀k,k+1≤n→∀r∈(d.ke k).1,r.ok n
 | 0,_,r,hr=>by simp[aC.ke]at hr
 | k+1,h,r,hr=>by
   simp only[aC.ke,List.mem_append,List.mem_singleton]at hr
   rcases hr with hr | rfl
   · exact d.Cu k (by omega) r hr
   · exact aC.Mr _ (by omega) (by omega)
theorem aC.Ms(d:aC){n:Nat}(hn:1≤n)(hne:(d.pP n).1.frm≠(d.pP n).1.to):(d.pP n).1.ok n:=by
 unfold aC.pP at hne ⊢
 simp only at hne ⊢
 have b1:=d.dD n
 have b2:=d.dE (n:=(n:Int)) (by omega)
 generalize d.next n=a1 at*
 obtain⟨x1,d1⟩:=a1
 simp only at*
 have c1:=d1.dD n
 have c2:=d1.dE (n:=(n:Int)) (by omega)
 generalize d1.next n=a2 at*
 obtain⟨x2,d2⟩:=a2
 simp only at*
 have m3:=d2.vV (l:=[11,59,199]) (by simp)
 generalize d2.of [11,59,199]=a3 at*
 obtain⟨x3,d3⟩:=a3
 simp only at*
 have m4:=d3.vV (l:=[9,3]) (by simp)
 generalize d3.of [9,3]=a4 at*
 obtain⟨x4,d4⟩:=a4
 simp only[List.mem_cons,List.not_mem_nil,or_false]at m3 m4 ⊢
 constructor<;>(simp only;omega)
theorem aC.JJ{n:Nat}(hn:1≤n):∀(k:Nat) (l:List Road) (d:aC),(∀r∈l,r.ok n)→∀r∈(aC.more n l d k).1,r.ok n
 | 0,l,d,h=>h
 | k+1,l,d,h=>by
   unfold aC.more
   split
   · refine aC.JJ hn k _ _ ?_
     split
     · exact h
     · rename_i hne
       intro r hr
       rcases List.mem_append.1 hr with hr | hr
       · exact h r hr
       · rw[List.mem_singleton.1 hr];exact d.Ms hn hne
   · exact h
theorem aC.Cv(n:Int):∀(k:Nat) (l:List Road) (d:aC),l.length≤(aC.more n l d k).1.length
 | 0,l,d=>Nat.le_refl _
 | k+1,l,d=>by
   unfold aC.more
   split
   · refine Nat.le_trans ?_ (aC.Cv n k _ _)
     split<;>(try rw[List.length_append])<;>omega
   · exact Nat.le_refl _
theorem aC.Cw(d:aC):∀k,∀p∈(d.ef k).1, -30≤p.h∧p.h≤0
 | 0,p,hp=>by simp[aC.ef]at hp
 | k+1,p,hp=>by
   have b1:=(d.ef k).2.dD 4
   have b2:=(d.ef k).2.dE (n:=4) (by omega)
   unfold aC.ef at hp
   split at hp
   all_goals
    simp only[List.mem_append,List.mem_singleton]at hp
    rcases hp with hp | rfl
    · exact d.Cw k p hp
    · simp only;omega
theorem aC.yl(d:aC):d.Om.1.places.length=d.sU:=aC.pQ _ _
theorem aC.zH(d:aC):d.sU-1≤d.Om.1.roads.length∧d.Om.1.roads.length≤10:=by
 have nb:=d.xj
 have e:d.AJ.1.length=d.sU-1:=aC.rB _ _
 constructor
 · rw[← e];exact aC.Cv _ _ _ _
 · exact aC.FL _ _ _ _ (by omega)
theorem aC.JK(d:aC):d.Om.1.ok:=by
 have nb:=d.xj
 have h1:=d.yl
 have h2:=d.zH
 refine⟨by omega,by omega,fun p hp=>?_,?_⟩
 · have:=aC.Cw _ _ p hp;omega
 · rw[h1]
   exact aC.JJ (by omega) _ _ _ (aC.Cu _ _ (by omega))
def aC.Vv(d:aC):Spn×aC:=
 let a:=d.of [0,1000,5000,20000, -5000, -20000,4999,100]
 let b:=a.2.of [0,1,1000,6000]
 let c:=b.2.of [0,1,500]
 let w:=c.2.one 9
 (if w.1=true then⟨-1125899906842624,1125899906842624⟩else⟨a.1-b.1,a.1+c.1⟩,w.2)
def aC.FM(d:aC):Nat→List Spn×aC
 | 0=>([],d)
 | k+1=>((d.FM k).1++[((d.FM k).2.Vv).1],((d.FM k).2.Vv).2)
def aC.ZP(d:aC)(m:aT):List Spn×aC:=d.FM m.roads.length
theorem JL{gc:Bool}{dead:List Nat}{c:C}{vs:List D}{H:aj}(P:Nat→St→Prop)(n:Nat)(Q:Ex×St→Prop)(h0:P 0 ⟨jx dead vs,H⟩)
 (hs:∀j st,j<n→P j st→(∃st',fJ gc dead st.H.length (exS aN c st)=some st'∧P (j+1) st')∨∃q,exS aN c st=some q∧q.1≠ .normal∧Q q)
 (he:∀st,P n st→∃q,exS aN c st=some q∧q.1≠ .normal∧Q q):∃q,exS aN (.loop gc dead c) ⟨vs,H⟩=some q∧Q q:=by
 have key:∀(k j:Nat) (st:St),j+k=n→P j st→∃q,mz gc dead (exS aN c) st=some q∧Q q:=by
  intro k
  induction k with
  | zero=>
    intro j st hj hp
    obtain⟨q,h1,h2,h3⟩:=he st (by rw[← hj];exact hp)
    exact⟨q,c7 h1 h2,h3⟩
  | succ k ih=>
    intro j st hj hp
    rcases hs j st (by omega) hp with⟨st',h1,h2⟩ | ⟨q,h1,h2,h3⟩
    · obtain⟨q,h3,h4⟩:=ih (j+1) st' (by omega) h2
      exact⟨q,jO h1 h3,h4⟩
    · exact⟨q,c7 h1 h2,h3⟩
 exact key n 0 _ (by omega) h0
theorem Vw(l:List Int):aN 0 N.i9 [.t (tL l)] []=some (.bp 0 0,[aC.obj ⟨l,0⟩]):=by
 refine ax K.sD rfl ?_
 simp (disch:=omega) only[go_sem,K.i9,↓reduceIte,aC.obj,Nat.reduceAdd,Nat.reduceSub]
theorem Vx{d:aC}(hd:d.dU)(n:Int)(h1:1≤n)(hn:n≤4611686018427387904):
 ∃(v:Int) (e:aC),aN 0 N.aA [.bp 0 0,I n] [d.obj]=some (I v,[e.obj])∧e.dU∧0≤v∧v<n:=
 ⟨_,_,fR d n hn hd,aC.aV hd n,d.dD n,d.dE h1⟩
theorem Vy{d:aC}(hd:d.dU):
 ∃(m:aT) (e:aC),aN 0 N.cj [.bp 0 0] [d.obj]=some (.t m.e,[e.obj])∧e.dU∧m.ok∧2≤m.places.length∧m.places.length≤7∧1≤m.roads.length∧m.roads.length≤10:=by
 have b:=d.xj
 have p:=d.yl
 have r:=d.zH
 exact⟨_,_,Rf d hd,aC.GZ hd,d.JK,by omega,by omega,by omega,by omega⟩
end Go.Ev
namespace Go.Ev
open Go
variable [Lib] [cn] [bS] [iE] [iv]
abbrev never:Int:=1099511627776
abbrev Wh.box(w:Wh):Obj:= .box [I w.time,.t (tL w.frm)]
def G3(w:Wh)(p:Int):Bool:=decide (0≤p∧p≤(w.frm.length:Int)-1)&& !decide (nth w.frm p.toNat=never)
theorem Cx(w:Wh)(hw:w.frm.length≤4294967296)(p:Int):aN 0 N.bX [I p,.bp 0 0] [w.box]=some (B (G3 w p),[w.box]):=by
 refine ax K.oc rfl ?_
 have i:=I8 p 0 ((w.frm.length:Int)-1)
 unfold G3
 obtain⟨time,frm⟩:=w
 simp only at*
 by_cases h:0≤p∧p≤(frm.length:Int)-1
 · simp only[h,and_self,decide_true]at i
   obtain⟨h1,h2⟩:=h
   have g:(frm.map (T.int .i64))[p.toNat]?=some (tI (nth frm p.toNat)):=dz _ (by omega)
   by_cases c:nth frm p.toNat=never
   · simp (disch:=omega) only[go_sem,K.bX,↓reduceIte,i,g,Nat.reduceAdd,Nat.reduceSub]
   · simp (disch:=omega) only[go_sem,K.bX,↓reduceIte,i,g,Nat.reduceAdd,Nat.reduceSub]
 · simp only[h,decide_false]at i
   simp only[h,decide_false,Bool.false_and]
   simp (disch:=omega) only[go_sem,K.bX,↓reduceIte,i,Nat.reduceAdd,Nat.reduceSub]
def JM(area:List Int)(ws:List Wh)(k:Nat):Bool:=area.any (G3 (nth ws k))
def Mt(area:List Int)(xs:List World)(i:Nat):Bool:=(List.range (nth xs i).whr.length).any (JM area (nth xs i).whr)
def zI(b:Bel)(area:List Int):Bool:= !(List.range b.worlds.length).any (Mt area b.worlds)
abbrev tW(ws:List Wh):T:= .sl (ws.map Wh.e)
abbrev tX(xs:List World):T:= .sl (xs.map World.e)
theorem Cy(area:List Int)(ha:area.length≤4294967296)(xs:List World)(tags:List Int)(ws:List Wh)(hw:ws.length≤1000000)(hf:∀w∈ws,w.frm.length≤1000000)(i:Nat)(a b c d e:D):
 exS aN K.ui ⟨[a,.t (tL area),b,c,d,e,.t (tX xs),I xs.length,I i,.t (tW ws),I ws.length,I 0],[.box [.t (tX xs)],.box [.t (tL tags),.t (tW ws)]]⟩=
 some (if(List.range ws.length).any (JM area ws)=true
  then(.ret,⟨[.und,.t (tL area),.und,B false,.und,.bp 2 0,.t (tX xs),I xs.length,I i,.t (tW ws),I ws.length,I (p7 ws.length (JM area ws))],[.box [.t (tX xs)],.box [.t (tL tags),.t (tW ws)],(nth ws (p7 ws.length (JM area ws))).box]⟩)
  else(.exit 2,⟨[.und,.t (tL area),.und,.und,.und,.und,.t (tX xs),I xs.length,I i,.t (tW ws),I ws.length,I ws.length],[.box [.t (tX xs)],.box [.t (tL tags),.t (tW ws)]]⟩)):=by
 refine yd (fun k=>⟨[.und,.t (tL area),.und,.und,.und,.und,.t (tX xs),I xs.length,I i,.t (tW ws),I ws.length,I k],[.box [.t (tX xs)],.box [.t (tL tags),.t (tW ws)]]⟩) ws.length (JM area ws)
  (fun k=>(.ret,⟨[.und,.t (tL area),.und,B false,.und,.bp 2 0,.t (tX xs),I xs.length,I i,.t (tW ws),I ws.length,I k],[.box [.t (tX xs)],.box [.t (tL tags),.t (tW ws)],(nth ws k).box]⟩)) _ rfl ?_ ?_ ?_ (by simp)
 · intro k hk hp
   have g:(ws.map Wh.e)[k]?=some (nth ws k).e:=dz _ hk
   have f:=hf _ (aa hk)
   unfold JM at hp
   have cf:aN 0 N.aB [.t (tL area),.fn N.bX [.bp 0 0]] [(nth ws k).box]=some (B (area.any (G3 (nth ws k))),[(nth ws k).box]):=
    mH area ha N.bX [[tI (nth ws k).time,tL (nth ws k).frm]] (G3 (nth ws k)) (fun p _=>Cx (nth ws k) (by omega) p)
   rw[hp]at cf
   generalize nth ws k=w at*
   obtain⟨time,frm⟩:=w
   simp only[Wh.box]at*
   simp (disch:=omega) only[go_sem,K.kV,↓reduceIte,g,cf,Nat.reduceAdd,Nat.reduceSub]
 · intro k hk hp
   refine⟨?_,by simp⟩
   have g:(ws.map Wh.e)[k]?=some (nth ws k).e:=dz _ hk
   have f:=hf _ (aa hk)
   unfold JM at hp
   have cf:aN 0 N.aB [.t (tL area),.fn N.bX [.bp 0 0]] [(nth ws k).box]=some (B (area.any (G3 (nth ws k))),[(nth ws k).box]):=
    mH area ha N.bX [[tI (nth ws k).time,tL (nth ws k).frm]] (G3 (nth ws k)) (fun p _=>Cx (nth ws k) (by omega) p)
   rw[hp]at cf
   generalize nth ws k=w at*
   obtain⟨time,frm⟩:=w
   simp only[Wh.box]at*
   simp (disch:=omega) only[go_sem,K.kV,↓reduceIte,g,cf,Nat.reduceAdd,Nat.reduceSub]
 · simp (disch:=omega) only[go_sem,K.kV,↓reduceIte,Nat.reduceAdd,Nat.reduceSub]
theorem Mu(b:Bel)(hb:b.sz)(area:List Int)(ha:area.length≤4294967296):aN 0 N.fH [.t b.e,.t (tL area)] []=some (B (zI b area),[]):=by
 refine ax K.qP rfl ?_
 obtain⟨xs⟩:=b
 obtain⟨hb1,hb2⟩:=hb
 simp only at hb1 hb2
 have loop:∀a b c e f g:D,exS aN K.uk ⟨[.t (Bel.mk xs).e,.t (tL area),.bp 0 0,a,b,c,.t (tX xs),I xs.length,I 0,e,f,g],[.box [.t (tX xs)]]⟩=
  some (if(List.range xs.length).any (Mt area xs)=true
   then(fun j=>(.ret,⟨[.und,.t (tL area),.und,B false,.und,.bp 2 0,.t (tX xs),I xs.length,I j,.t (tW (nth xs j).whr),I (nth xs j).whr.length,I (p7 (nth xs j).whr.length (JM area (nth xs j).whr))],
    [.box [.t (tX xs)],.box [.t (tL (nth xs j).tags),.t (tW (nth xs j).whr)],(nth (nth xs j).whr (p7 (nth xs j).whr.length (JM area (nth xs j).whr))).box]⟩):Nat→Ex×St) (p7 xs.length (Mt area xs))
   else(.exit 0,⟨[.und,.t (tL area),.und,.und,.und,.und,.t (tX xs),I xs.length,I xs.length,.und,.und,.und],[.box [.t (tX xs)]]⟩)):=by
  intro a b c e f g
  refine yd (fun j=>⟨[.und,.t (tL area),.und,.und,.und,.und,.t (tX xs),I xs.length,I j,.und,.und,.und],[.box [.t (tX xs)]]⟩) xs.length (Mt area xs)
   (fun j=>(.ret,⟨[.und,.t (tL area),.und,B false,.und,.bp 2 0,.t (tX xs),I xs.length,I j,.t (tW (nth xs j).whr),I (nth xs j).whr.length,I (p7 (nth xs j).whr.length (JM area (nth xs j).whr))],
    [.box [.t (tX xs)],.box [.t (tL (nth xs j).tags),.t (tW (nth xs j).whr)],(nth (nth xs j).whr (p7 (nth xs j).whr.length (JM area (nth xs j).whr))).box]⟩)) _ rfl ?_ ?_ ?_ (by simp)
  · intro j hj hp
    have g1:(xs.map World.e)[j]?=some (nth xs j).e:=dz _ hj
    obtain⟨s1,s2,s3⟩:=hb2 _ (aa hj)
    have l2:=fun a b c d e=>Cy area ha xs (nth xs j).tags (nth xs j).whr s2 s3 j a b c d e
    unfold Mt at hp
    rw[hp]at l2
    simp only[Bool.false_eq_true,↓reduceIte]at l2
    generalize nth xs j=x at*
    obtain⟨tags,whr⟩:=x
    simp only at*
    simp (disch:=omega) only[go_sem,K.kW,↓reduceIte,g1,l2,Nat.reduceAdd,Nat.reduceSub]
  · intro j hj hp
    refine⟨?_,by simp⟩
    have g1:(xs.map World.e)[j]?=some (nth xs j).e:=dz _ hj
    obtain⟨s1,s2,s3⟩:=hb2 _ (aa hj)
    have l2:=fun a b c d e=>Cy area ha xs (nth xs j).tags (nth xs j).whr s2 s3 j a b c d e
    unfold Mt at hp
    rw[hp]at l2
    simp only[↓reduceIte]at l2
    generalize nth xs j=x at*
    obtain⟨tags,whr⟩:=x
    simp only at*
    simp (disch:=omega) only[go_sem,K.kW,↓reduceIte,g1,l2,Nat.reduceAdd,Nat.reduceSub]
  · simp (disch:=omega) only[go_sem,K.kW,↓reduceIte,Nat.reduceAdd,Nat.reduceSub]
 unfold zI
 simp (disch:=omega) only[go_sem,K.fH,↓reduceIte,loop,Nat.reduceAdd,Nat.reduceSub]
 cases hf:(List.range xs.length).any (Mt area xs)with
 | true=>
   simp (disch:=omega) only[go_sem,↓reduceIte,Nat.reduceAdd,Nat.reduceSub]
 | false=>simp (disch:=omega) only[go_sem,↓reduceIte,Bool.false_eq_true,Nat.reduceAdd,Nat.reduceSub]
structure Req where
 x:Mm
 s:XA
 k:Keys
 b:Bel
 t:Int
 from_:Int
abbrev Req.e(r:Req):T:= .agg [tL r.x.area,tI r.x.hold,tI r.x.mis,tI r.s.st,tI r.s.fi,tI r.s.se,tI r.s.ti,tL r.k.roads,tL r.k.keys,.bool r.k.out,.sl (r.b.worlds.map World.e),tI r.t,tI r.from_]
structure Req.sz(r:Req):Prop where
 hx:r.x.area.length≤1000000
 hk:r.k.roads.length≤1000000
 hk2:r.k.keys.length≤1000000
 hb:r.b.sz
section
variable (x : Mm) (s : XA) (k : Keys) (b : Bel) (hx : x.area.length ≤ 1000000) (hk : k.roads.length ≤ 1000000) (hk2 : k.keys.length ≤ 1000000) (hb : b.sz)
include hx hk hk2 hb
end
end Go.Ev
namespace Go.Ev
open Go
variable [Lib] [cn] [bS] [iE] [iv]
section
variable (area : List Int) (ha : area.length ≤ 1000000) (xs : List World) (hx : xs.length ≤ 1000000)
include ha hx
end
end Go.Ev
namespace Go.Ev.K
open Go.Ev
def cM:Fn:={ nargs:=2,vars:=[0,1,2,3,4],body:=(.seq (.reg [w 2 (.bx v0 2),w 3 (.bx v1 1),w 4 (.mv (.c (.nil)))] []) (.seq (.reg [f 1 v2,g l0,u (.ln l0),u (.mf N.bF [.v 2,.v 3]),u (.ca N.dK 0 [] [.l 1,.l 0]),w 4 (.mv l0)] []) .ret)),res:=[(4,none)]}
def bF:Fn:={ nargs:=3,vars:=[0,1,2,4],body:=(.seq (.reg [w 3 (.mv (.b false))] []) (.seq (.reg [f 1 v1,g l0,m v0,a 1 l1 l0,g l0,g v2,u (.bin .leq l1 l0),w 3 (.mv l0)] []) .ret)),res:=[(3,none)]}
end Go.Ev.K
namespace Go.Ev
class lU [Lib]:Prop where
 kP:Lib.fs N.cM=some K.cM
 jD:Lib.fs N.bF=some K.bF
namespace K
variable [Lib] [lU]
theorem kP:Lib.fs N.cM=some K.cM:=lU.kP
theorem jD:Lib.fs N.bF=some K.bF:=lU.jD
end K
end Go.Ev
namespace Go.Ev.K
open Go.Ev
end Go.Ev.K
namespace Go.Ev
class hX [Lib]:Prop where
namespace K
variable [Lib] [hX]
end K
end Go.Ev
namespace Go.Ev
open Go
variable [Lib] [cn] [bS] [iE] [iv] [lU] [gV] [gW] [kt] [iJ] [hX]
end Go.Ev
namespace Go.Ev
open Go
theorem Ei{d:D}{n:Int}(h:EY d=some n):d= .t (.int .i64 n):=by
 unfold EY at h
 split at h
 · cases h;rfl
 · cases h
theorem JN:∀ {es:List D} {l:List Int},bQ EY es=some l→es=l.map fun x=> .t (.int .i64 x)
 | [],l,h=>by simp[bQ]at h;subst h;rfl
 | e::r,l,h=>by
   simp only[bQ,Option.bind_eq_some_iff,Option.map_eq_some_iff]at h
   obtain⟨x,hx,y,hy,rfl⟩:=h
   rw[Ei hx,JN hy];rfl
theorem ym(x:Int):∀l,(Ox x l).Perm (x::l)
 | []=> .refl _
 | y::r=>by
   unfold Ox
   split
   · exact .refl _
   · exact((ym x r).cons y).trans (.swap x y r)
theorem jQ:∀l,(iL l).Perm l
 | []=> .refl _
 | x::r=>(ym x _).trans ((jQ r).cons x)
theorem JO{x:Int}:∀ {l:List Int},l.Pairwise (· ≤ ·)→(Ox x l).Pairwise (· ≤ ·)
 | [],_=>by simp[Ox]
 | y::r,h=>by
   unfold Ox
   split
   · rename_i hx
     refine List.pairwise_cons.2 ⟨fun z hz=>?_,h⟩
     rcases List.mem_cons.1 hz with rfl | hz
     · exact hx
     · have:=(List.pairwise_cons.1 h).1 z hz;omega
   · rename_i hx
     have h':=List.pairwise_cons.1 h
     refine List.pairwise_cons.2 ⟨fun z hz=>?_,JO h'.2⟩
     have hz:=(ym x r).mem_iff.1 hz
     rcases List.mem_cons.1 hz with rfl | hz
     · omega
     · exact h'.1 z hz
theorem uq:∀l,(iL l).Pairwise (· ≤ ·)
 | []=> .nil
 | x::r=>JO (uq r)
theorem lx(l:List Int):(iL l).length=l.length:=(jQ l).length_eq
theorem FN(l:List Int):(l.mergeSort fun x y=>decide (x≤y))=iL l:=by
 refine List.Perm.eq_of_pairwise (le:=(· ≤ ·)) (fun a b _ _ h1 h2=>by omega) ?_ (uq l) ((List.mergeSort_perm _ _).trans (jQ l).symm)
 have:=List.pairwise_mergeSort (le:=fun x y:Int=>decide (x≤y)) (fun a b c=>by simp;omega) (fun a b=>by simp;omega) l
 exact this.imp (by simp)
end Go.Ev
namespace Go.Ev
open Go
variable [Lib] [cn] [bS] [iE] [iv] [lU] [gV] [gW] [kt] [iJ] [hX]
section
variable (k : Keys) (hl : k.keys.length ≤ 1000000) (hr : k.roads.length ≤ 1000000)
include hl hr
end
end Go.Ev
namespace Go.Ev
open Go
variable [Lib] [cn] [bS] [iE] [iv] [lU] [gV] [gW] [kt] [iJ] [hX]
theorem ZQ{a b:List Int}(ha:a.Pairwise (· ≤ ·))(hb:b.Pairwise (· ≤ ·))(p:a.Perm b):a=b:=
 List.Perm.eq_of_pairwise (le:=(· ≤ ·)) (fun a b _ _ h1 h2=>by omega) ha hb p
section
variable (b u v y : Obj) (ds : aj)
end
end Go.Ev
namespace Go.Ev.K
open Go.Ev
def bH:C:=(.its [u (.bin .lss v10 v9)] [] 0 .skip (.exit 0) (.seq (.blk 1 (.seq (.reg [m v10,a 2 v8 v10,h 2 l0,w 7 (.al [.nil,.nil] []),w 6 (.mv l3),u (.st l1 l2 2 [])] []) (.blk 2 (.ite [f 0 v7,g l0,u (.ln l0),u (.ca N.eM 0 [] [.l 0,.i 1,.i 12]),u (.un .not l0),m l0,y 0 false (.fa v7 1),y 1 false (.ld l0 1 false),y 2 false (.ln l0),y 3 false (.fa v7 0),y 4 false (.ld l0 1 false),y 5 false (.ln l0),y 6 false (.bin .neq l3 l0),u (.pk l7 (.b true) l0),m l0,y 0 false (.fa v7 0),y 1 false (.ld l0 1 false),y 2 false (.ca N.eT 0 [] [.l 0]),y 3 false (.un .not l0),u (.pk l4 (.b true) l0),m l0] [] 0 (.seq (.reg [w 4 (.mv (.b false))] []) .ret) (.ite [f 0 v7,g l0,u (.ca N.bg 0 [] [.l 0]),u (.ca N.bM 0 [] [.l 0]),m v5,u (.ca N.aX 0 [] [.l 1,.l 0]),u (.un .not l0),m l0] [] 0 (.seq (.reg [w 4 (.mv (.b false))] []) .ret) (.ite [m v6,u (.bin .gtr l0 (.i 0)),m l0,y 0 true (.fa v3 0),y 1 true (.ld l0 1 false),y 2 true (.mv v6),y 3 true (.bin .sub l0 (.i 1)),y 4 true (.ia l2 l0 2),y 5 true (.fa l0 0),y 6 true (.ld l0 1 false),y 7 true (.fa v7 0),y 8 true (.ld l0 1 false),y 9 true (.ca N.aP 0 [] [.l 2,.l 0]),y 10 true (.bin .geq l0 (.i 0)),u (.pk l11 l0 (.b false)),m l0] [] 0 (.seq (.reg [w 4 (.mv (.b false))] []) .ret) (.ite [f 1 v7,g l0,u (.mf N.cT [.v 2]),u (.ca N.ae 0 [] [.l 1,.l 0]),m l0] [] 0 (.seq (.reg [w 4 (.mv (.b false))] []) .ret) .skip))))))) (.reg [u (.bin .add v10 (.i 1)),w 10 (.mv l0)] [])))
def od:C:= .loop true [0,1,4,6,7] K.bH
def eE:Fn:={ nargs:=2,vars:=[0,1,2,3,4,5,6,7,26,27,28],body:=(.seq (.reg [w 2 (.bx v0 2),w 3 (.bx v1 1),w 4 (.mv (.b false))] []) (.seq (.ite [h 2 v2,u (.ca N.dN 0 [] [.l 0]),u (.un .not l0),m l0,y 0 false (.fa v3 0),y 1 false (.ld l0 1 false),y 2 false (.ln l0),y 3 false (.ca N.eM 0 [] [.l 0,.i 1,.i 24]),y 4 false (.un .not l0),u (.pk l5 (.b true) l0)] [] 0 (.seq (.reg [w 4 (.mv (.b false))] []) .ret) .skip) (.seq (.reg [f 0 v3,g l0,a 2 l0 (.i 0),f 0 l0,g l0,u (.ca N.bg 0 [] [.l 0]),u (.ca N.bM 0 [] [.l 0]),w 5 (.mv l0)] []) (.seq (.seq (.reg [f 0 v3,w 8 (.ld l0 1 false),w 9 (.ln l0),w 10 (.mv (.i 0))] []) (.blk 0 K.od)) (.seq (.reg [w 4 (.mv (.b true))] []) .ret))))),res:=[(4,none)]}
def bM:Fn:={ nargs:=1,vars:=[2],body:= .fail,res:=[(0,none)],prim:=[2,N.aM]}
def bg:Fn:={ nargs:=1,vars:=[0,1,2],body:=(.seq (.reg [w 1 (.bx v0 1),w 2 (.mv (.c (.und)))] []) (.seq (.reg [u (.mf N.aM [.v 1]),w 2 (.mv l0)] []) .ret)),res:=[(2,none)]}
def eT:Fn:={ nargs:=1,vars:=[0,2,3],body:=(.seq (.reg [w 1 (.mv (.b false))] []) (.seq (.reg [m v0,u (.ca N.bg 0 [] [.l 0]),u (.ca N.bM 0 [] [.l 0]),w 2 (.mv l0)] []) (.seq (.reg [m v2,u (.ca N.dZ 0 [] [.l 0,.i 1,.i 65535]),w 1 (.mv l0)] []) .ret))),res:=[(1,none)]}
def cE:C:=(.its [u (.bin .lss v9 v8)] [] 0 .skip (.exit 0) (.seq (.blk 1 (.seq (.reg [m v9,a 1 v7 v9,g l0,w 3 (.mv l2),w 4 (.mv l1)] []) (.seq (.ite [m v3,m v1,u (.ln l0),u (.bin .geq l2 l0)] [] 0 (.seq (.reg [w 2 (.mv (.i 1))] []) .ret) .skip) (.seq (.reg [m v1,m v3,a 1 l1 l0,g l0,w 5 (.mv l0)] []) (.seq (.reg [m v4,m v5,u (.ca N.bU 0 [] [.l 1,.l 0]),w 6 (.mv l0)] []) (.ite [m v6,u (.bin .neq l0 (.i 0))] [] 0 (.seq (.reg [m v6,w 2 (.mv l0)] []) .ret) .skip)))))) (.reg [u (.bin .add v9 (.i 1)),w 9 (.mv l0)] [])))
def jf:C:= .loop true [2,3,4,5,6] K.cE
def aP:Fn:={ nargs:=2,vars:=[0,1,4,5,6,7,8,9,10,11],body:=(.seq (.reg [w 2 (.mv (.i 0))] []) (.seq (.seq (.reg [w 7 (.mv v0),w 8 (.ln l0),w 9 (.mv (.i 0))] []) (.blk 0 K.jf)) (.seq (.ite [m v0,u (.ln l0),m v1,u (.ln l0),u (.bin .lss l2 l0)] [] 0 (.seq (.reg [w 2 (.mv (.i (-1)))] []) .ret) .skip) (.seq (.reg [w 2 (.mv (.i 0))] []) .ret)))),res:=[(2,none)]}
def ae:Fn:={ nargs:=2,vars:=[0,1,4],body:=(.seq (.reg [w 2 (.mv (.b false))] []) (.seq (.reg [m v0,m v1,u (.ca N.au 0 [] [.l 1,.l 0]),u (.bin .geq l0 (.i 0)),w 2 (.mv l0)] []) .ret)),res:=[(2,none)]}
def cT:Fn:={ nargs:=2,vars:=[0,1,2,3],body:=(.seq (.reg [w 2 (.bx v0 2),w 3 (.mv (.b false))] []) (.seq (.reg [h 2 v1,h 2 v2,u (.ca N.ed 0 [] [.l 1,.l 0]),u (.un .not l0),w 3 (.mv l0)] []) .ret)),res:=[(3,none)]}
def mS:C:=(.its [u (.bin .lss v5 v4)] [] 0 .skip (.exit 0) (.seq (.blk 1 (.seq (.reg [a 1 v3 v5,g l0,w 2 (.mv l0)] []) (.ite [m v0,m v2,u (.cw l1 0 [] [.l 0]),u (.un .not l0)] [] 0 .ret .skip))) (.reg [u (.bin .add v5 (.i 1)),w 5 (.mv l0)] [])))
def m6:C:= .loop true [1,2] K.mS
def aM:Fn:={ nargs:=2,vars:=[0,1,4,5,6,7],body:=(.seq (.reg [w 3 (.ld v1 1 false),w 4 (.ln l0),w 5 (.mv (.i 0))] []) (.blk 0 K.m6)),res:=[]}
def bU:Fn:={ nargs:=2,vars:=[0,1,4,5,6],body:=(.seq (.reg [w 2 (.mv (.i 0))] []) (.seq (.reg [m v0,u (.ca N.cmp_isNaN_int 0 [] [.l 0]),w 3 (.mv l0)] []) (.seq (.reg [m v1,u (.ca N.cmp_isNaN_int 0 [] [.l 0]),w 4 (.mv l0)] []) (.seq (.ite [m v3] [] 0 (.seq (.ite [m v4] [] 0 (.seq (.reg [w 2 (.mv (.i 0))] []) .ret) .skip) (.seq (.reg [w 2 (.mv (.i (-1)))] []) .ret)) .skip) (.seq (.ite [m v4] [] 0 (.seq (.reg [w 2 (.mv (.i 1))] []) .ret) .skip) (.seq (.ite [m v0,m v1,u (.bin .lss l1 l0)] [] 0 (.seq (.reg [w 2 (.mv (.i (-1)))] []) .ret) .skip) (.seq (.ite [m v0,m v1,u (.bin .gtr l1 l0)] [] 0 (.seq (.reg [w 2 (.mv (.i 1))] []) .ret) .skip) (.seq (.reg [w 2 (.mv (.i 0))] []) .ret)))))))),res:=[(2,none)]}
def aZ:C:=(.its [u (.bin .lss v5 v4)] [] 0 .skip (.exit 0) (.seq (.blk 1 (.seq (.reg [m v5,w 3 (.mv l0)] []) (.ite [m v1,m v0,m v3,a 2 l1 l0,h 2 l0,u (.cw l4 0 [] [.l 0])] [] 0 (.seq (.reg [m v3,w 2 (.mv l0)] []) .ret) .skip))) (.reg [u (.bin .add v5 (.i 1)),w 5 (.mv l0)] [])))
def cg:C:= .loop true [2,3] K.aZ
def au:Fn:={ nargs:=2,vars:=[0,1,4,5,7,8],body:=(.seq (.reg [w 2 (.mv (.i 0))] []) (.seq (.seq (.reg [m v0,w 4 (.ln l0),w 5 (.mv (.i 0))] []) (.blk 0 K.cg)) (.seq (.reg [w 2 (.mv (.i (-1)))] []) .ret))),res:=[(2,none)]}
def cmp_isNaN_int:Fn:={ nargs:=1,vars:=[0,2],body:=(.seq (.reg [w 1 (.mv (.b false))] []) (.seq (.reg [m v0,m v0,u (.bin .neq l1 l0),w 1 (.mv l0)] []) .ret)),res:=[(1,none)]}
end Go.Ev.K
namespace Go.Ev
class fT [Lib]:Prop where
 pR:Lib.fs N.eE=some K.eE
 jE:Lib.fs N.bM=some K.bM
 gD:Lib.fs N.bg=some K.bg
 oe:Lib.fs N.eT=some K.eT
 gr:Lib.fs N.aP=some K.aP
 bA:Lib.fs N.ae=some K.ae
 mT:Lib.fs N.cT=some K.cT
 jg:Lib.fs N.aM=some K.aM
 kQ:Lib.fs N.bU=some K.bU
 bC:Lib.fs N.au=some K.au
 mU:Lib.fs N.cmp_isNaN_int=some K.cmp_isNaN_int
namespace K
variable [Lib] [fT]
theorem pR:Lib.fs N.eE=some K.eE:=fT.pR
theorem jE:Lib.fs N.bM=some K.bM:=fT.jE
theorem gD:Lib.fs N.bg=some K.bg:=fT.gD
theorem oe:Lib.fs N.eT=some K.eT:=fT.oe
theorem gr:Lib.fs N.aP=some K.aP:=fT.gr
theorem bA:Lib.fs N.ae=some K.ae:=fT.bA
theorem mT:Lib.fs N.cT=some K.cT:=fT.mT
theorem jg:Lib.fs N.aM=some K.aM:=fT.jg
theorem kQ:Lib.fs N.bU=some K.bU:=fT.kQ
theorem bC:Lib.fs N.au=some K.au:=fT.bC
theorem mU:Lib.fs N.cmp_isNaN_int=some K.cmp_isNaN_int:=fT.mU
end K
end Go.Ev
namespace Go.Ev
open Go
variable [Lib] [cn] [bS] [iE] [iv] [lU] [gV] [gW] [kt] [iJ] [hX] [fT]
theorem yn(l:List Int):aN 0 N.bg [.t (tL l)] []=some (.fn N.aM [.bp 0 0],[.box [.t (tL l)]]):=by
 refine ax K.gD rfl ?_
 simp (disch:=omega) only[go_sem,K.bg,↓reduceIte,Nat.reduceAdd,Nat.reduceSub]
theorem G4(l:List Int):xp (tL l)=some l:=by
 unfold xp
 simp only
 induction l with
 | nil=>rfl
 | cons x l ih=>
   simp only[List.map_cons,bQ]at ih ⊢
   rw[ih];rfl
theorem yo(l:List Int)(hl:l.length≤1000000):aN 0 N.bM [.fn N.aM [.bp 0 0]] [.box [.t (tL l)]]=some (.t (tL (iL l)),[.box [.t (tL l)]]):=by
 refine B7 K.jE (by decide) ?_
 show uL [2,N.aM] _ _=_
 simp only[uL,if_true,List.getElem?_cons_zero,uI,Option.bind_some,G4]
 rw[if_pos (by unfold lim;omega)]
theorem FO(a:Int):aN 0 N.cmp_isNaN_int [I a] []=some (B false,[]):=by
 refine ax K.mU rfl ?_
 simp (disch:=omega) only[go_sem,K.cmp_isNaN_int,↓reduceIte,decide_true,Bool.not_true,Nat.reduceAdd,Nat.reduceSub]
def JP(a b:Int):Int:=if a<b then -1 else if b<a then 1 else 0
theorem On(a b:Int):aN 0 N.bU [I a,I b] []=some (I (JP a b),[]):=by
 refine ax K.kQ rfl ?_
 have h1:=FO a
 have h2:=FO b
 unfold JP
 by_cases c1:a<b
 · simp (disch:=omega) only[go_sem,K.bU,↓reduceIte,h1,h2,c1,Bool.false_eq_true,Nat.reduceAdd,Nat.reduceSub]
 · by_cases c2:b<a
   · simp (disch:=omega) only[go_sem,K.bU,↓reduceIte,h1,h2,c1,c2,Bool.false_eq_true,Nat.reduceAdd,Nat.reduceSub]
   · simp (disch:=omega) only[go_sem,K.bU,↓reduceIte,h1,h2,c1,c2,Bool.false_eq_true,Nat.reduceAdd,Nat.reduceSub]
def FP(a b:List Int)(j:Nat):Bool:=decide (b.length≤j)||decide (nth a j≠nth b j)
def Mv(a b:List Int):Int:=match (List.range a.length).find? (FP a b)with
 | some j=>if b.length≤j then 1 else JP (nth a j) (nth b j)
 | none=>if a.length<b.length then -1 else 0
theorem zJ(a b:List Int)(ha:a.length≤1000000)(hb:b.length≤1000000):aN 0 N.aP [.t (tL a),.t (tL b)] []=some (I (Mv a b),[]):=by
 refine ax K.gr rfl ?_
 have loop:∀z2 z3 z4 z5 z6:D,exS aN K.jf ⟨[.t (tL a),.t (tL b),z2,z3,z4,z5,z6,.t (tL a),I a.length,I 0],[]⟩=
  some (match (List.range a.length).find? (FP a b)with
   | some j=>(.ret,⟨[.t (tL a),.t (tL b),I (if b.length≤j then 1 else JP (nth a j) (nth b j)),I j,I (nth a j),if b.length≤j then .und else I (nth b j),if b.length≤j then .und else I (JP (nth a j) (nth b j)),.t (tL a),I a.length,I j],[]⟩)
   | none=>(.exit 0,⟨[.t (tL a),.t (tL b),.und,.und,.und,.und,.und,.t (tL a),I a.length,I a.length],[]⟩)):=by
  intro z2 z3 z4 z5 z6
  refine b7 (fun j=>⟨[.t (tL a),.t (tL b),.und,.und,.und,.und,.und,.t (tL a),I a.length,I j],[]⟩) a.length (FP a b) _ _ rfl ?_ ?_ ?_ (by simp)
  · intro j hj hp
    simp only[FP,Bool.or_eq_false_iff,decide_eq_false_iff_not,Decidable.not_not]at hp
    obtain⟨h1,h2⟩:=hp
    have c:=On (nth a j) (nth b j)
    rw[h2]at c
    have e:JP (nth b j) (nth b j)=0:=by unfold JP;rw[if_neg (by omega),if_neg (by omega)]
    rw[e]at c
    simp (disch:=omega) only[go_sem,K.cE,↓reduceIte,h2,c,Nat.reduceAdd,Nat.reduceSub]
  · intro j hj hp
    refine⟨?_,by simp⟩
    by_cases h1:b.length≤j
    · rw[if_pos h1,if_pos h1,if_pos h1]
      simp (disch:=omega) only[go_sem,K.cE,↓reduceIte,Nat.reduceAdd,Nat.reduceSub]
    · rw[if_neg h1,if_neg h1,if_neg h1]
      have h2:nth a j≠nth b j:=by simpa [FP,h1]using hp
      have c:=On (nth a j) (nth b j)
      have e:JP (nth a j) (nth b j)≠0:=by
       unfold JP;split
       · omega
       · split<;>omega
      generalize JP (nth a j) (nth b j)=v at*
      simp (disch:=omega) only[go_sem,K.cE,↓reduceIte,c,e,Nat.reduceAdd,Nat.reduceSub]
  · simp (disch:=omega) only[go_sem,K.cE,↓reduceIte,Nat.reduceAdd,Nat.reduceSub]
 unfold Mv
 cases hf:(List.range a.length).find? (FP a b)with
 | some j=>
   simp only[hf]at loop
   simp (disch:=omega) only[go_sem,K.aP,↓reduceIte,loop,Nat.reduceAdd,Nat.reduceSub]
 | none=>
   simp only[hf]at loop
   by_cases h:a.length<b.length
   · simp (disch:=omega) only[go_sem,K.aP,↓reduceIte,loop,h,Nat.reduceAdd,Nat.reduceSub]
   · simp (disch:=omega) only[go_sem,K.aP,↓reduceIte,loop,h,Nat.reduceAdd,Nat.reduceSub]
end Go.Ev
namespace Go.Ev
open Go
variable [Lib] [cn] [bS]
theorem pS:∀ {l l':List Int},l.Nodup→(∀x∈l,x∈l')→l.length≤l'.length
 | [],_,_,_=>by simp
 | a::l,l',hn,hs=>by
   obtain⟨h1,h2⟩:=List.nodup_cons.1 hn
   have ha:a∈l':=hs a List.mem_cons_self
   have:=pS (l:=l) (l':=l'.erase a) h2 fun x hx=>by
    have hne:x≠a:=fun e=>h1 (e▸hx)
    exact(List.mem_erase_of_ne hne).2 (hs x (List.mem_cons_of_mem _ hx))
   have h3:=List.length_erase_of_mem ha
   have h4:0<l'.length:=List.length_pos_of_mem ha
   simp only[List.length_cons]
   omega
theorem kR{l:List Int}{x:Int}:0≤bL l x↔x∈l:=by
 unfold bL
 cases hf:(List.range l.length).find? (fun j=>decide (nth l j=x))with
 | some j=>
   obtain⟨h1,h2⟩:=x7 hf
   have:=aa h1
   rw[of_decide_eq_true h2]at this
   simp[this]
 | none=>
   have:=List.find?_eq_none.1 hf
   simp only[Int.reduceNeg]
   constructor
   · intro h;simp at h
   · intro h
     obtain⟨j,hj⟩:=List.mem_iff_getElem?.1 h
     have hl:=(List.getElem?_eq_some_iff.1 hj).1
     have:=this j (List.mem_range.2 hl)
     rw[bB hj]at this
     simp at this
theorem iT{l:List Int}(h:eC l=true):l.Nodup:=by
 simp only[eC,List.all_eq_true,List.mem_range,mP,decide_eq_true_eq]at h
 refine List.pairwise_iff_getElem.2 fun i j hi hj hij e=>?_
 obtain⟨-, -,h3⟩:=h j hj
 have h4:¬nth l j∈l.take j:=fun hm=>by have:=kR.2 hm;omega
 apply h4
 apply List.mem_iff_getElem?.2
 refine⟨i,?_⟩
 rw[List.getElem?_take_of_lt hij,List.getElem?_eq_getElem hi,e,←List.getElem?_eq_getElem hj,jv hj]
theorem fN{m:aT}{b:Bel}(h:qf m b=true):1≤b.worlds.length∧b.worlds.length≤24∧1≤(nth b.worlds 0).tags.length∧(nth b.worlds 0).tags.length≤12∧
 ∀i,i<b.worlds.length→oJ m b.worlds (nth b.worlds 0).tags i=true:=by
 simp only[qf,Bool.and_eq_true,decide_eq_true_eq,List.all_eq_true,List.mem_range]at h
 exact⟨h.1.1.1,h.1.1.2,h.1.2.1,h.1.2.2,h.2⟩
theorem gE{m:aT}{ws:List World}{first:List Int}{i:Nat}(h:oJ m ws first i=true):(nth ws i).tags.length=first.length∧(nth ws i).whr.length=first.length∧eC (nth ws i).tags=true∧
 ∀k,k<(nth ws i).tags.length→nth (nth ws i).tags k∈first∧cL m (nth (nth ws i).whr k)=true:=by
 simp only[oJ,Bool.and_eq_true,decide_eq_true_eq,List.all_eq_true,List.mem_range,HU]at h
 exact⟨h.1.1.1.1,h.1.1.1.2,h.1.1.2,fun k hk=>⟨kR.1 (h.2 k hk).1,(h.2 k hk).2⟩⟩
theorem yp{m:aT}{b:Bel}(h:qf m b=true){tag:Int}(ht:0≤bL (nth b.worlds 0).tags tag){i:Nat}(hi:i<b.worlds.length):
 0≤bL (nth b.worlds i).tags tag:=by
 obtain⟨h1,h2,h3,h4,h5⟩:=fN h
 obtain⟨w1,w2,w3,w4⟩:=gE (h5 i hi)
 apply kR.2
 apply Classical.byContradiction
 intro hn
 have:=pS (l:=tag::(nth b.worlds i).tags) (l':=(nth b.worlds 0).tags) (List.nodup_cons.2 ⟨hn,iT w3⟩) (by
  intro x hx
  rcases List.mem_cons.1 hx with e | hx
  · rw[e];exact kR.1 ht
  · obtain⟨j,hj⟩:=List.mem_iff_getElem?.1 hx
    have:=(w4 j (List.getElem?_eq_some_iff.1 hj).1).1
    rwa [bB hj]at this)
 simp only[List.length_cons]at this
 omega
def mV(m:aT)(b:Bel)(tag:Int):Int:=if qf m b=false then 6 else if bL (nth b.worlds 0).tags tag<0 then 41 else 0
theorem FQ{m:aT}(h:m.ok)(b:Bel)(hs:b.sz)(tag:Int):aN 0 N.dJ [.t m.e,.t b.e,I tag] []=some (I (mV m b tag),[]):=by
 refine ax K.pd rfl ?_
 have v:=Jy h b hs
 unfold mV
 cases hv:qf m b with
 | false=>
   rw[hv]at v
   obtain⟨ws⟩:=b
   simp (disch:=omega) only[go_sem,K.dJ,↓reduceIte,v]
 | true=>
   rw[hv]at v
   obtain⟨h1,h2,h3,h4,h5⟩:=fN hv
   have br:=mO (nth b.worlds 0).tags tag (by omega)
   obtain⟨ws⟩:=b
   simp only at h1 br ⊢
   by_cases c:bL (nth ws 0).tags tag<0
   · simp (disch:=omega) only[go_sem,K.dJ,↓reduceIte,v,br,c,Bool.true_eq_false]
   · simp (disch:=omega) only[go_sem,K.dJ,↓reduceIte,v,br,c,Bool.true_eq_false]
def Mw(a b:Wh)(t:Int):Bool:=(List.range (min a.frm.length b.frm.length)).any fun p=>decide (nth a.frm p≤t∧nth b.frm p≤t)
theorem Rg(a b:Wh)(t:Int)(ha:a.frm.length≤1000000):aN 0 N.gM [.t a.e,.t b.e,I t] []=some (B (Mw a b t),[]):=by
 refine ax K.qy rfl ?_
 obtain⟨t1,l1⟩:=a
 obtain⟨t2,l2⟩:=b
 unfold Mw
 simp only at ha ⊢
 have loop:∀x y z:D,exS aN K.tS ⟨[x,y,I t,.bp 0 0,.bp 1 0,z,I 0],[.box [I t1,.t (tL l1)],.box [I t2,.t (tL l2)]]⟩=
  some (match (List.range (min l1.length l2.length)).find? (fun p=>decide (nth l1 p≤t∧nth l2 p≤t))with
   | some j=>(.ret,⟨[.und,.und,I t,.bp 0 0,.bp 1 0,B true,I j],[.box [I t1,.t (tL l1)],.box [I t2,.t (tL l2)]]⟩)
   | none=>(.exit 0,⟨[.und,.und,I t,.bp 0 0,.bp 1 0,.und,I (min l1.length l2.length:Nat)],[.box [I t1,.t (tL l1)],.box [I t2,.t (tL l2)]]⟩)):=by
  intro x y z
  refine b7 (fun j=>⟨[.und,.und,I t,.bp 0 0,.bp 1 0,.und,I j],[.box [I t1,.t (tL l1)],.box [I t2,.t (tL l2)]]⟩) (min l1.length l2.length) (fun p=>decide (nth l1 p≤t∧nth l2 p≤t)) _ _ rfl ?_ ?_ ?_ (by simp)
  · intro j hj hp
    have hp:¬(nth l1 j≤t∧nth l2 j≤t):=of_decide_eq_false hp
    by_cases c:nth l1 j≤t
    · simp (disch:=omega) only[go_sem,K.gP,↓reduceIte,c]
    · simp (disch:=omega) only[go_sem,K.gP,↓reduceIte,c]
  · intro j hj hp
    have hp:nth l1 j≤t∧nth l2 j≤t:=of_decide_eq_true hp
    refine⟨?_,by simp⟩
    simp (disch:=omega) only[go_sem,K.gP,↓reduceIte]
  · by_cases h1:l1.length≤l2.length
    · have e:min l1.length l2.length=l1.length:=by omega
      rw[e]
      simp (disch:=omega) only[go_sem,K.gP,↓reduceIte]
    · have e:min l1.length l2.length=l2.length:=by omega
      rw[e]
      simp (disch:=omega) only[go_sem,K.gP,↓reduceIte]
 rw[← Av]
 simp (disch:=omega) only[go_sem,K.gM,↓reduceIte,loop]
 cases hf:(List.range (min l1.length l2.length)).find? (fun p=>decide (nth l1 p≤t∧nth l2 p≤t))with
 | some j=>simp (disch:=omega) only[go_sem,↓reduceIte,Option.isSome]
 | none=>simp (disch:=omega) only[go_sem,↓reduceIte,Option.isSome]
def AL(b:Bel)(person t:Int)(p:Nat):Bool:=(List.range b.worlds.length).any fun i=>decide (0≤person∧person<(nth b.worlds i).whr.length)&&decide ((p:Int)∈jS (nth (nth b.worlds i).whr person.toNat) t)
def Cz(b:Bel)(person t:Int):List Int:=cq 64 (AL b person t)
theorem AM(b:Bel)(hs:b.sz)(person t:Int):aN 0 N.dq [.t b.e,I person,I t] []=some (.t (tL (Cz b person t)),[]):=by
 refine ax K.lE rfl ?_
 obtain⟨h1,h2⟩:=hs
 obtain⟨ws⟩:=b
 simp only at h1 h2
 have hlen:=fun k=>gR k (AL ⟨ws⟩ person t)
 have inner:∀(j:Nat),j<64→∀a c:D,exS aN K.oA ⟨[a,I person,I t,.bp 0 0,c,.ref 1 0 (cq j (AL ⟨ws⟩ person t)).length,I j,I 0],[.box [.t (.sl (ws.map World.e))],.arr 1 false 0 (((cq j (AL ⟨ws⟩ person t)).map (T.int .i64)).map .t)]⟩=
  some (match (List.range ws.length).find? (fun i=>decide (0≤person∧person<(nth ws i).whr.length)&&decide ((j:Int)∈jS (nth (nth ws i).whr person.toNat) t))with
   | some i=>(.exit 2,⟨[.und,I person,I t,.bp 0 0,.und,.ref 1 0 ((cq j (AL ⟨ws⟩ person t)).length+1),I j,I i],[.box [.t (.sl (ws.map World.e))],.arr 1 false 0 (((cq j (AL ⟨ws⟩ person t)++[(j:Int)]).map (T.int .i64)).map .t)]⟩)
   | none=>(.exit 2,⟨[.und,I person,I t,.bp 0 0,.und,.ref 1 0 (cq j (AL ⟨ws⟩ person t)).length,I j,I ws.length],[.box [.t (.sl (ws.map World.e))],.arr 1 false 0 (((cq j (AL ⟨ws⟩ person t)).map (T.int .i64)).map .t)]⟩)):=by
  intro j hj a c
  have hlen:=hlen j
  refine b7 (fun i=>⟨[.und,I person,I t,.bp 0 0,.und,.ref 1 0 (cq j (AL ⟨ws⟩ person t)).length,I j,I i],[.box [.t (.sl (ws.map World.e))],.arr 1 false 0 (((cq j (AL ⟨ws⟩ person t)).map (T.int .i64)).map .t)]⟩) ws.length _ _ _ rfl ?_ ?_ ?_ (by simp)
  · intro i hi hp
    have sz:=h2 _ (aa hi)
    generalize hx:nth ws i=x at*
    obtain⟨tags,whr⟩:=x
    obtain⟨s1,s2,s3⟩:=sz
    simp only at s1 s2 s3 hp
    generalize cq j (AL ⟨ws⟩ person t)=L at*
    by_cases c1:0≤person
    · by_cases c2:person<whr.length
      · have ps:=uc (nth whr person.toNat) t (s3 _ (aa (by omega)))
        have hs:=zu (jS (nth whr person.toNat) t) j (by
         have:=gR (nth whr person.toNat).frm.length (fun j=>decide (nth (nth whr person.toNat).frm j≤t))
         have:=s3 _ (aa (l:=whr) (j:=person.toNat) (by omega))
         unfold jS;omega)
        simp only[c1,c2,and_self,decide_true,Bool.true_and,decide_eq_false_iff_not]at hp
        simp only[hp,decide_false]at hs
        generalize hy:nth whr person.toNat=y at*
        obtain⟨time,frm⟩:=y
        simp (disch:=omega) only[go_sem,K.ei,↓reduceIte,hx,hy,ps,hs]
      · simp (disch:=omega) only[go_sem,K.ei,↓reduceIte,hx]
    · simp (disch:=omega) only[go_sem,K.ei,↓reduceIte,hx]
  · intro i hi hp
    have sz:=h2 _ (aa hi)
    generalize hx:nth ws i=x at*
    obtain⟨tags,whr⟩:=x
    obtain⟨s1,s2,s3⟩:=sz
    simp only[Bool.and_eq_true,decide_eq_true_eq]at s1 s2 s3 hp
    obtain⟨⟨c1,c2⟩,c3⟩:=hp
    generalize cq j (AL ⟨ws⟩ person t)=L at*
    have ps:=uc (nth whr person.toNat) t (s3 _ (aa (by omega)))
    have hs:=zu (jS (nth whr person.toNat) t) j (by
     have:=gR (nth whr person.toNat).frm.length (fun j=>decide (nth (nth whr person.toNat).frm j≤t))
     have:=s3 _ (aa (l:=whr) (j:=person.toNat) (by omega))
     unfold jS;omega)
    simp only[c3,decide_true]at hs
    generalize hy:nth whr person.toNat=y at*
    obtain⟨time,frm⟩:=y
    refine⟨?_,by simp⟩
    simp (disch:=omega) only[go_sem,K.ei,↓reduceIte,hx,hy,ps,hs]
  · generalize cq j (AL ⟨ws⟩ person t)=L at*
    simp (disch:=omega) only[go_sem,K.ei,↓reduceIte]
 have loop:∀a b c:D,exS aN K.oB ⟨[a,I person,I t,.bp 0 0,b,.ref 1 0 0,I 0,c],[.box [.t (.sl (ws.map World.e))],.arr 1 false 0 []]⟩=
  some (.exit 0,⟨[.und,I person,I t,.bp 0 0,.und,.ref 1 0 (cq 64 (AL ⟨ws⟩ person t)).length,I 64,.und],[.box [.t (.sl (ws.map World.e))],.arr 1 false 0 (((cq 64 (AL ⟨ws⟩ person t)).map (T.int .i64)).map .t)]⟩):=by
  intro a b c
  refine b5 (fun j=>⟨[.und,I person,I t,.bp 0 0,.und,.ref 1 0 (cq j (AL ⟨ws⟩ person t)).length,I j,.und],[.box [.t (.sl (ws.map World.e))],.arr 1 false 0 (((cq j (AL ⟨ws⟩ person t)).map (T.int .i64)).map .t)]⟩) 64 rfl ?_ ?_ (by simp)
  · intro j hj
    have inner:=inner j hj
    have hlen:=hlen j
    rw[kG]
    have e:AL ⟨ws⟩ person t j=((List.range ws.length).find? (fun i=>decide (0≤person∧person<(nth ws i).whr.length)&&decide ((j:Int)∈jS (nth (nth ws i).whr person.toNat) t))).isSome:=by rw[Av];rfl
    cases hf:(List.range ws.length).find? (fun i=>decide (0≤person∧person<(nth ws i).whr.length)&&decide ((j:Int)∈jS (nth (nth ws i).whr person.toNat) t))with
    | some i=>
      rw[hf]at e inner
      simp only[Option.isSome]at e
      simp (disch:=omega) only[go_sem,K.ij,↓reduceIte,inner,e]
    | none=>
      rw[hf]at e inner
      simp only[Option.isSome]at e
      simp (disch:=omega) only[go_sem,K.ij,↓reduceIte,inner,e,Bool.false_eq_true]
  · simp (disch:=omega) only[go_sem,K.ij,↓reduceIte]
    rfl
 have:=hlen 64
 simp (disch:=omega) only[go_sem,K.dq,↓reduceIte,loop,Cz]
def gu(m:aT)(starts:List Int)(t:Int)(j:Nat):List Wh:=(List.range j).map fun i=>(dh m (nth starts i) t).1
theorem CA(m:aT)(starts:List Int)(t:Int)(j:Nat):gu m starts t (j+1)=gu m starts t j++[(dh m (nth starts j) t).1]:=by
 unfold gu;rw[List.range_succ,List.map_append];rfl
@[simp] theorem pT (m : aT) (starts : List Int) (t : Int) (j : Nat) : (gu m starts t j).length = j := by simp [gu]
def rC(m:aT)(tags starts:List Int)(t:Int):Bel×Int:=
 if tags.length=starts.length∧1≤tags.length∧tags.length≤12 then
  if eC tags=true then match (List.range tags.length).find? (fun i=> !decide ((dh m (nth starts i) t).2=0))with
   | some i=>(⟨[]⟩,(dh m (nth starts i) t).2)
   | none=>(⟨[⟨tags,gu m starts t tags.length⟩]⟩,0)
  else(⟨[]⟩,41)
 else(⟨[]⟩,6)
abbrev stH(m:aT)(tags:List Int)(r:D)(ws:List Wh):aj:=[.box (af m),.box [r],.arr 1 false 0 ((tags.map (T.int .i64)).map .t),.box [.ref 2 0 tags.length,.ref 5 0 ws.length],.arr 2 false 0 [],.arr 2 false 0 ((ws.map Wh.e).map .t)]
theorem Ej{m:aT}(h:m.ok)(tags starts:List Int)(hl:tags.length≤1000000)(t:Int):
 aN 0 N.cV [.t m.e,.t (tL tags),.t (tL starts),I t] []=some (.tup [.t (rC m tags starts t).1.e,I (rC m tags starts t).2],[]):=by
 refine ax K.o5 rfl ?_
 have ck:=ru h
 have pr:=Co tags hl
 unfold rC
 by_cases c1:tags.length=starts.length
 · by_cases c2:tags.length<1
   · simp (disch:=omega) only[go_sem,K.cV,↓reduceIte,ck,show ¬(tags.length=starts.length∧1≤tags.length∧tags.length≤12)by omega]
     rfl
   · by_cases c3:12<tags.length
     · simp (disch:=omega) only[go_sem,K.cV,↓reduceIte,ck,show ¬(tags.length=starts.length∧1≤tags.length∧tags.length≤12)by omega]
       rfl
     · have c:tags.length=starts.length∧1≤tags.length∧tags.length≤12:=by omega
       rw[if_pos c]
       clear c
       cases hp:eC tags with
       | false=>
         rw[hp]at pr
         simp (disch:=omega) only[go_sem,K.cV,↓reduceIte,ck,pr,Bool.false_eq_true]
         rfl
       | true=>
         rw[hp]at pr
         have loop:∀a b c d:D,exS aN K.rO ⟨[a,.t (tL tags),.t (tL starts),I t,.bp 0 0,.bp 1 0,b,.bp 3 0,I 0,c,d],stH m tags .nil []⟩=
          some (match (List.range tags.length).find? (fun i=> !decide ((dh m (nth starts i) t).2=0))with
           | some i=>(.ret,⟨[.und,.t (tL tags),.t (tL starts),I t,.bp 0 0,.bp 1 0,I (dh m (nth starts i) t).2,.bp 3 0,I i,.bp 6 0,I (dh m (nth starts i) t).2],stH m tags .nil (gu m starts t i)++[.box [I (dh m (nth starts i) t).1.time,.t (tL (dh m (nth starts i) t).1.frm)]]⟩)
           | none=>(.exit 0,⟨[.und,.t (tL tags),.t (tL starts),I t,.bp 0 0,.bp 1 0,.und,.bp 3 0,I tags.length,.und,.und],stH m tags .nil (gu m starts t tags.length)⟩)):=by
          intro a b c d
          refine b7 (fun j=>⟨[.und,.t (tL tags),.t (tL starts),I t,.bp 0 0,.bp 1 0,.und,.bp 3 0,I j,.und,.und],stH m tags .nil (gu m starts t j)⟩) tags.length _ _ _ rfl ?_ ?_ ?_ (by simp)
          · intro j hj hp
            have st:=AD h (nth starts j) t
            have ln:=pT m starts t j
            have hp:(dh m (nth starts j) t).2=0:=by simpa using hp
            rw[CA]
            generalize gu m starts t j=L at*
            generalize dh m (nth starts j) t=r at*
            obtain⟨⟨time,frm⟩,e⟩:=r
            simp only at st hp ⊢
            subst hp
            simp (disch:=omega) only[go_sem,K.j5,↓reduceIte,stH,st,Nat.reduceAdd,Nat.reduceSub]
            done
          · intro j hj hp
            have st:=AD h (nth starts j) t
            have ln:=pT m starts t j
            have hp:(dh m (nth starts j) t).2≠0:=by simpa using hp
            generalize gu m starts t j=L at*
            generalize dh m (nth starts j) t=r at*
            obtain⟨⟨time,frm⟩,e⟩:=r
            simp only at st hp ⊢
            refine⟨?_,by simp⟩
            simp (disch:=omega) only[go_sem,K.j5,↓reduceIte,stH,st,Nat.reduceAdd,Nat.reduceSub]
            done
          · have ln:=pT m starts t tags.length
            generalize gu m starts t tags.length=L at*
            simp (disch:=omega) only[go_sem,K.j5,↓reduceIte]
         simp only[stH,List.map_nil,List.length_nil]at loop
         simp (disch:=omega) only[go_sem,K.cV,↓reduceIte,ck,pr,loop]
         cases hf:(List.range tags.length).find? (fun i=> !decide ((dh m (nth starts i) t).2=0))with
         | some i=>
           simp (disch:=omega) only[go_sem,↓reduceIte]
           rfl
         | none=>
           have ln:=pT m starts t tags.length
           generalize gu m starts t tags.length=L at*
           simp (disch:=omega) only[go_sem,↓reduceIte]
           rfl
 · simp (disch:=omega) only[go_sem,K.cV,↓reduceIte,ck,show ¬(tags.length=starts.length∧1≤tags.length∧tags.length≤12)by omega]
   rfl
@[go_sem] theorem XC : ([] : List D).all mr = true := (rfl)
@[go_sem] theorem Vz (d : D) (r : List D) : (d :: r).all mr = (mr d && r.all mr) := (rfl)
@[go_sem] theorem Rh (cs : List T) : mr (.t (.agg cs)) = false := (rfl)
@[go_sem] theorem Ri (k : IntKind) (n : Int) : mr (.t (.int k n)) = true := (rfl)
@[go_sem] theorem aaJ (l : List Wh) (k : Nat) (a : Int) (b : List Int) : (List.map D.t (List.map Wh.e l)).set k (D.t (T.agg [tI a, tL b])) = List.map D.t (List.map Wh.e (l.set k ⟨a, b⟩)) := by
 rw[List.map_set,List.map_set]
def zK(m:aT)(tag:Int)(l:List Int)(a b:Int)(x:World):Wh×Int:=yS m (nth x.whr (bL x.tags tag).toNat) l a b
def Ek(tag:Int)(x:World)(w:Wh):World:=⟨x.tags,x.whr.set (bL x.tags tag).toNat w⟩
def CB(tag:Int)(r:Wh×Int)(x:World)(out:List World):List World:=
 if r.2=43 then out else out++[if r.2=0 then Ek tag x r.1 else x]
def mW(m:aT)(tag:Int)(l:List Int)(a b:Int)(ws:List World):Nat→List World
 | 0=>[]
 | j+1=>CB tag (zK m tag l a b (nth ws j)) (nth ws j) (mW m tag l a b ws j)
theorem JQ(tag:Int)(r:Wh×Int)(x:World)(out:List World):(CB tag r x out).length≤out.length+1:=by
 unfold CB;split<;>simp
theorem ur(m:aT)(tag:Int)(l:List Int)(a b:Int)(ws:List World):∀j,(mW m tag l a b ws j).length≤j
 | 0=>by simp[mW]
 | j+1=>by
   have:=ur m tag l a b ws j
   have:=JQ tag (zK m tag l a b (nth ws j)) (nth ws j) (mW m tag l a b ws j)
   simp only[mW];omega
abbrev vm(m:aT)(ws out:List World):aj:=[.box (af m),.box [.t (.sl (ws.map World.e))],.box [.nil],.box [.ref 4 0 out.length],.arr 2 false 0 ((out.map World.e).map .t)]
theorem CC{m:aT}(h:m.ok)(ws:List World)(hw:ws.length≤1000000)(tag:Int)(l:List Int)(hp:l.length≤1000000)(a b:Int)(i:Nat)(hi:i<ws.length)(hs:(nth ws i).sz)
 (hb:0≤bL (nth ws i).tags tag) (hb2:bL (nth ws i).tags tag<(nth ws i).whr.length) (out:List World) (ho:out.length≤1000000):
 ((zK m tag l a b (nth ws i)).2≠6∧(zK m tag l a b (nth ws i)).2≠8→fJ true [0,1,9,10,13,14,15,16,17,18] 5 (exS aN K.dS ⟨[.und,.und,I tag,.t (tL l),I a,I b,.bp 0 0,.bp 1 0,.bp 2 0,.und,.und,.bp 3 0,I i,.und,.und,.und,.und,.und,.und],vm m ws out⟩)=
   some ⟨[.und,.und,I tag,.t (tL l),I a,I b,.bp 0 0,.bp 1 0,.bp 2 0,.und,.und,.bp 3 0,I (i+1),.und,.und,.und,.und,.und,.und],vm m ws (CB tag (zK m tag l a b (nth ws i)) (nth ws i) out)⟩)∧
 ((zK m tag l a b (nth ws i)).2=6∨(zK m tag l a b (nth ws i)).2=8→∃vs H,exS aN K.dS ⟨[.und,.und,I tag,.t (tL l),I a,I b,.bp 0 0,.bp 1 0,.bp 2 0,.und,.und,.bp 3 0,I i,.und,.und,.und,.und,.und,.und],vm m ws out⟩=
   some (.ret,⟨vs,H⟩)∧vs[8]?=some (.bp 2 0)∧vs[9]?=some (I (zK m tag l a b (nth ws i)).2)∧H[2]?=some (.box [.t (.sl (ws.map World.e))])):=by
 unfold zK CB Ek
 have c1:=mc (nth ws i) hs
 have br:=mO (nth ws i).tags tag (by have:=hs.1;omega)
 have s3:=hs.2.2 _ (aa (l:=(nth ws i).whr) (j:=(bL (nth ws i).tags tag).toNat) (by omega))
 have se:=U6 h (nth (nth ws i).whr (bL (nth ws i).tags tag).toNat) s3 l hp a b
 generalize hx:nth ws i=x at*
 obtain⟨tags,whr⟩:=x
 simp only at c1 br s3 se hb hb2 ⊢
 generalize bL tags tag=k at*
 generalize hy:nth whr k.toNat=y at*
 generalize yS m y l a b=r at*
 obtain⟨⟨time,frm⟩,e⟩:=r
 obtain⟨t0,f0⟩:=y
 obtain⟨s1,s2, -⟩:=hs
 simp only at s1 s2 s3 se ⊢
 constructor
 · rintro ⟨n6,n8⟩
   by_cases e43:e=43
   · subst e43
     simp (disch:=omega) only[go_sem,K.dS,↓reduceIte,vm,hx,hy,c1,br,se,Nat.reduceAdd,Nat.reduceSub]
   · by_cases e0:e=0
     · subst e0
       simp (disch:=omega) only[go_sem,K.dS,↓reduceIte,vm,hx,hy,c1,br,se,Nat.reduceAdd,Nat.reduceSub]
     · simp (disch:=omega) only[go_sem,K.dS,↓reduceIte,vm,hx,hy,c1,br,se,Nat.reduceAdd,Nat.reduceSub]
 · rintro (h68 | h68)<;>subst h68
   · simp (disch:=omega) only[go_sem,K.dS,↓reduceIte,vm,hx,hy,c1,br,se,Nat.reduceAdd,Nat.reduceSub]
     exact⟨_,_,rfl,rfl,rfl,rfl⟩
   · simp (disch:=omega) only[go_sem,K.dS,↓reduceIte,vm,hx,hy,c1,br,se,Nat.reduceAdd,Nat.reduceSub]
     exact⟨_,_,rfl,rfl,rfl,rfl⟩
def CD(m:aT)(tag:Int)(l:List Int)(a b:Int)(ws:List World)(j:Nat):Bool:=decide ((zK m tag l a b (nth ws j)).2=6∨(zK m tag l a b (nth ws j)).2=8)
def qT(m:aT)(b:Bel)(tag:Int)(l:List Int)(a c:Int):Bel×Int:=
 if mV m b tag≠0 then(b,mV m b tag)else match (List.range b.worlds.length).find? (CD m tag l a c b.worlds)with
  | some i=>(b,(zK m tag l a c (nth b.worlds i)).2)
  | none=>if(mW m tag l a c b.worlds b.worlds.length).length=0 then(b,43)else(⟨mW m tag l a c b.worlds b.worlds.length⟩,0)
theorem JR{m:aT}(h:m.ok)(b:Bel)(hs:b.sz)(tag:Int)(l:List Int)(hp:l.length≤1000000)(a c:Int):
 aN 0 N.gg [.t m.e,.t b.e,I tag,.t (tL l),I a,I c] []=some (.tup [.t (qT m b tag l a c).1.e,I (qT m b tag l a c).2],[]):=by
 refine ax K.sF rfl ?_
 have cb:=vl b hs
 have bo:=FQ h b hs tag
 unfold qT
 by_cases e0:mV m b tag=0
 · have hb:qf m b=true:=by
    unfold mV at e0
    by_cases hb:qf m b=true
    · exact hb
    · rw[if_pos (by simpa using hb)]at e0;omega
   have ht:0≤bL (nth b.worlds 0).tags tag:=by
    unfold mV at e0
    rw[if_neg (by simp[hb])]at e0
    by_cases ht:bL (nth b.worlds 0).tags tag<0
    · rw[if_pos ht]at e0;omega
    · omega
   have bb:∀i,i<b.worlds.length→0≤bL (nth b.worlds i).tags tag∧bL (nth b.worlds i).tags tag<(nth b.worlds i).whr.length:=fun i hi=>by
    obtain⟨-, -, -, -,h5⟩:=fN hb
    obtain⟨w1,w2, -⟩:=gE (h5 i hi)
    have b1:=yp hb ht (i:=i) hi
    have b2:=(vk b1).1
    exact⟨b1,by omega⟩
   rw[e0]at bo
   obtain⟨ws⟩:=b
   obtain⟨s1,s2⟩:=hs
   simp only at s1 s2 bb cb bo ⊢
   have ln:=ur m tag l a c ws
   have loop:=fun x y z u v w p q r=>uh (gc:=true) (dead:=[0,1,9,10,13,14,15,16,17,18]) (c:=K.dS)
    (vs:=[x,y,I tag,.t (tL l),I a,I c,.bp 0 0,.bp 1 0,.bp 2 0,z,u,.bp 3 0,I 0,v,w,p,q,r,.und]) (H:=vm m ws [])
    (fun j=>⟨[.und,.und,I tag,.t (tL l),I a,I c,.bp 0 0,.bp 1 0,.bp 2 0,.und,.und,.bp 3 0,I j,.und,.und,.und,.und,.und,.und],vm m ws (mW m tag l a c ws j)⟩) ws.length (CD m tag l a c ws)
    (fun j q=>q.1= .ret∧q.2.vs[8]?=some (.bp 2 0)∧q.2.vs[9]?=some (I (zK m tag l a c (nth ws j)).2)∧q.2.H[2]?=some (.box [.t (.sl (ws.map World.e))]))
    (.exit 0,⟨[.und,.und,I tag,.t (tL l),I a,I c,.bp 0 0,.bp 1 0,.bp 2 0,.und,.und,.bp 3 0,I ws.length,.und,.und,.und,.und,.und,.und],vm m ws (mW m tag l a c ws ws.length)⟩) rfl
    (fun j hj hq=>by
     have:=ln j
     have hq:¬((zK m tag l a c (nth ws j)).2=6∨(zK m tag l a c (nth ws j)).2=8):=by simpa [CD]using hq
     obtain⟨b1,b2⟩:=bb j hj
     exact(CC h ws s1 tag l hp a c j hj (s2 _ (aa hj)) b1 b2 (mW m tag l a c ws j) (by omega)).1 (by omega))
    (fun j hj hq=>by
     have:=ln j
     have hq:(zK m tag l a c (nth ws j)).2=6∨(zK m tag l a c (nth ws j)).2=8:=by simpa [CD]using hq
     obtain⟨b1,b2⟩:=bb j hj
     obtain⟨vs,H,q1,q2⟩:=(CC h ws s1 tag l hp a c j hj (s2 _ (aa hj)) b1 b2 (mW m tag l a c ws j) (by omega)).2 hq
     exact⟨_,q1,by simp,rfl,q2⟩)
    (by
     have:=ln ws.length
     generalize mW m tag l a c ws ws.length=L at*
     simp (disch:=omega) only[go_sem,K.dS,↓reduceIte,vm,Nat.reduceAdd,Nat.reduceSub]) (by simp)
   have loop':∀x y z u v w p q r,_∨_:=loop
   clear loop
   rcases loop' (.t m.e) (.t (Bel.e ⟨ws⟩)) (I 0) (I 0) .und .und .und .und .und with⟨e1,e2⟩ | ⟨j,⟨x,vs,H⟩,e1,e2,e3,e4,e5,e6⟩
   · have e2:exS aN K.qt _=_:=e2
     simp only[vm,List.map_nil,List.length_nil]at e2
     have:=ln ws.length
     rw[e1]
     generalize mW m tag l a c ws ws.length=L at*
     by_cases L0:L.length=0
     · simp (disch:=omega) only[go_sem,K.gg,↓reduceIte,cb,bo,e2,L0,Nat.reduceAdd,Nat.reduceSub,ne_eq,not_true_eq_false]
     · simp (disch:=omega) only[go_sem,K.gg,↓reduceIte,cb,bo,e2,L0,Nat.reduceAdd,Nat.reduceSub,ne_eq,not_true_eq_false]
   · have e2:exS aN K.qt _=_:=e2
     simp only[vm,List.map_nil,List.length_nil]at e2
     rw[e1]
     simp only at e3 e4 e5 e6
     subst e3
     simp (disch:=omega) only[go_sem,K.gg,↓reduceIte,cb,bo,e2,Nat.reduceAdd,Nat.reduceSub,ne_eq,not_true_eq_false,e4,e5,e6,List.take_zero]
 · obtain⟨ws⟩:=b
   simp (disch:=omega) only[go_sem,K.gg,↓reduceIte,cb,bo,e0,ne_eq,not_false_eq_true]
def zL(m:aT)(tag:Int)(l:List Int)(a b bl:Int)(x:World):Wh×Int:=zy m (nth x.whr (bL x.tags tag).toNat) l a b bl
def El(tag:Int)(r:Wh×Int)(x:World)(out:List World):List World:=out++[if r.2=0 then Ek tag x r.1 else x]
def oL(m:aT)(tag:Int)(l:List Int)(a b bl:Int)(ws:List World):Nat→List World
 | 0=>[]
 | j+1=>El tag (zL m tag l a b bl (nth ws j)) (nth ws j) (oL m tag l a b bl ws j)
theorem uu(m:aT)(tag:Int)(l:List Int)(a b bl:Int)(ws:List World):∀j,(oL m tag l a b bl ws j).length=j
 | 0=>rfl
 | j+1=>by
   simp only[oL,El,List.length_append,uu m tag l a b bl ws j,List.length_singleton]
theorem CE{m:aT}(h:m.ok)(ws:List World)(hw:ws.length≤1000000)(tag:Int)(l:List Int)(hp:l.length≤1000000)(a b bl:Int)(i:Nat)(hi:i<ws.length)(hs:(nth ws i).sz)
 (hb:0≤bL (nth ws i).tags tag) (hb2:bL (nth ws i).tags tag<(nth ws i).whr.length) (out:List World) (ho:out.length≤1000000):
 ((zL m tag l a b bl (nth ws i)).2≠6∧(zL m tag l a b bl (nth ws i)).2≠8→fJ true [0,1,10,11,14,15,16,17] 5 (exS aN K.cR ⟨[.und,.und,I tag,.t (tL l),I a,I b,I bl,.bp 0 0,.bp 1 0,.bp 2 0,.und,.und,.bp 3 0,I i,.und,.und,.und,.und],vm m ws out⟩)=
   some ⟨[.und,.und,I tag,.t (tL l),I a,I b,I bl,.bp 0 0,.bp 1 0,.bp 2 0,.und,.und,.bp 3 0,I (i+1),.und,.und,.und,.und],vm m ws (El tag (zL m tag l a b bl (nth ws i)) (nth ws i) out)⟩)∧
 ((zL m tag l a b bl (nth ws i)).2=6∨(zL m tag l a b bl (nth ws i)).2=8→∃vs H,exS aN K.cR ⟨[.und,.und,I tag,.t (tL l),I a,I b,I bl,.bp 0 0,.bp 1 0,.bp 2 0,.und,.und,.bp 3 0,I i,.und,.und,.und,.und],vm m ws out⟩=
   some (.ret,⟨vs,H⟩)∧vs[9]?=some (.bp 2 0)∧vs[10]?=some (I (zL m tag l a b bl (nth ws i)).2)∧H[2]?=some (.box [.t (.sl (ws.map World.e))])):=by
 unfold zL El Ek
 have c1:=mc (nth ws i) hs
 have br:=mO (nth ws i).tags tag (by have:=hs.1;omega)
 have s3:=hs.2.2 _ (aa (l:=(nth ws i).whr) (j:=(bL (nth ws i).tags tag).toNat) (by omega))
 have se:=U7 h (nth (nth ws i).whr (bL (nth ws i).tags tag).toNat) s3 l hp a b bl
 generalize hx:nth ws i=x at*
 obtain⟨tags,whr⟩:=x
 simp only at c1 br s3 se hb hb2 ⊢
 generalize bL tags tag=k at*
 generalize hy:nth whr k.toNat=y at*
 generalize zy m y l a b bl=r at*
 obtain⟨⟨time,frm⟩,e⟩:=r
 obtain⟨t0,f0⟩:=y
 obtain⟨s1,s2, -⟩:=hs
 simp only at s1 s2 s3 se ⊢
 constructor
 · rintro ⟨n6,n8⟩
   by_cases e0:e=0
   · subst e0
     simp (disch:=omega) only[go_sem,K.cR,↓reduceIte,vm,hx,hy,c1,br,se,Nat.reduceAdd,Nat.reduceSub]
   · simp (disch:=omega) only[go_sem,K.cR,↓reduceIte,vm,hx,hy,c1,br,se,Nat.reduceAdd,Nat.reduceSub]
 · rintro (h68 | h68)<;>subst h68
   · simp (disch:=omega) only[go_sem,K.cR,↓reduceIte,vm,hx,hy,c1,br,se,Nat.reduceAdd,Nat.reduceSub]
     exact⟨_,_,rfl,rfl,rfl,rfl⟩
   · simp (disch:=omega) only[go_sem,K.cR,↓reduceIte,vm,hx,hy,c1,br,se,Nat.reduceAdd,Nat.reduceSub]
     exact⟨_,_,rfl,rfl,rfl,rfl⟩
def CF(m:aT)(tag:Int)(l:List Int)(a b bl:Int)(ws:List World)(j:Nat):Bool:=decide ((zL m tag l a b bl (nth ws j)).2=6∨(zL m tag l a b bl (nth ws j)).2=8)
def qU(m:aT)(b:Bel)(tag:Int)(l:List Int)(a c bl:Int):Bel×Int:=
 if mV m b tag≠0 then(b,mV m b tag)else match (List.range b.worlds.length).find? (CF m tag l a c bl b.worlds)with
  | some i=>(b,(zL m tag l a c bl (nth b.worlds i)).2)
  | none=>(⟨oL m tag l a c bl b.worlds b.worlds.length⟩,0)
theorem Em{m:aT}{b:Bel}{tag:Int}(e0:mV m b tag=0):qf m b=true∧∀i,i<b.worlds.length→0≤bL (nth b.worlds i).tags tag∧bL (nth b.worlds i).tags tag<(nth b.worlds i).whr.length:=by
 have hb:qf m b=true:=by
  unfold mV at e0
  by_cases hb:qf m b=true
  · exact hb
  · rw[if_pos (by simpa using hb)]at e0;omega
 have ht:0≤bL (nth b.worlds 0).tags tag:=by
  unfold mV at e0
  rw[if_neg (by simp[hb])]at e0
  by_cases ht:bL (nth b.worlds 0).tags tag<0
  · rw[if_pos ht]at e0;omega
  · omega
 refine⟨hb,fun i hi=>?_⟩
 obtain⟨-, -, -, -,h5⟩:=fN hb
 obtain⟨w1,w2, -⟩:=gE (h5 i hi)
 have b1:=yp hb ht (i:=i) hi
 have b2:=(vk b1).1
 exact⟨b1,by omega⟩
theorem JS{m:aT}(h:m.ok)(b:Bel)(hs:b.sz)(tag:Int)(l:List Int)(hp:l.length≤1000000)(a c bl:Int):
 aN 0 N.dC [.t m.e,.t b.e,I tag,.t (tL l),I a,I c,I bl] []=some (.tup [.t (qU m b tag l a c bl).1.e,I (qU m b tag l a c bl).2],[]):=by
 refine ax K.nJ rfl ?_
 have cb:=vl b hs
 have bo:=FQ h b hs tag
 unfold qU
 by_cases e0:mV m b tag=0
 · obtain⟨hb,bb⟩:=Em e0
   rw[e0]at bo
   obtain⟨ws⟩:=b
   obtain⟨s1,s2⟩:=hs
   simp only at s1 s2 bb cb bo ⊢
   have ln:=uu m tag l a c bl ws
   have loop:=fun x y u v w p q r=>uh (gc:=true) (dead:=[0,1,10,11,14,15,16,17]) (c:=K.cR)
    (vs:=[x,y,I tag,.t (tL l),I a,I c,I bl,.bp 0 0,.bp 1 0,.bp 2 0,u,v,.bp 3 0,I 0,w,p,q,r]) (H:=vm m ws [])
    (fun j=>⟨[.und,.und,I tag,.t (tL l),I a,I c,I bl,.bp 0 0,.bp 1 0,.bp 2 0,.und,.und,.bp 3 0,I j,.und,.und,.und,.und],vm m ws (oL m tag l a c bl ws j)⟩) ws.length (CF m tag l a c bl ws)
    (fun j q=>q.1= .ret∧q.2.vs[9]?=some (.bp 2 0)∧q.2.vs[10]?=some (I (zL m tag l a c bl (nth ws j)).2)∧q.2.H[2]?=some (.box [.t (.sl (ws.map World.e))]))
    (.exit 0,⟨[.und,.und,I tag,.t (tL l),I a,I c,I bl,.bp 0 0,.bp 1 0,.bp 2 0,.und,.und,.bp 3 0,I ws.length,.und,.und,.und,.und],vm m ws (oL m tag l a c bl ws ws.length)⟩) rfl
    (fun j hj hq=>by
     have:=ln j
     have hq:¬((zL m tag l a c bl (nth ws j)).2=6∨(zL m tag l a c bl (nth ws j)).2=8):=by simpa [CF]using hq
     obtain⟨b1,b2⟩:=bb j hj
     exact(CE h ws s1 tag l hp a c bl j hj (s2 _ (aa hj)) b1 b2 (oL m tag l a c bl ws j) (by omega)).1 (by omega))
    (fun j hj hq=>by
     have:=ln j
     have hq:(zL m tag l a c bl (nth ws j)).2=6∨(zL m tag l a c bl (nth ws j)).2=8:=by simpa [CF]using hq
     obtain⟨b1,b2⟩:=bb j hj
     obtain⟨vs,H,q1,q2⟩:=(CE h ws s1 tag l hp a c bl j hj (s2 _ (aa hj)) b1 b2 (oL m tag l a c bl ws j) (by omega)).2 hq
     exact⟨_,q1,by simp,rfl,q2⟩)
    (by
     have:=ln ws.length
     generalize oL m tag l a c bl ws ws.length=L at*
     simp (disch:=omega) only[go_sem,K.cR,↓reduceIte,vm,Nat.reduceAdd,Nat.reduceSub]) (by simp)
   rcases loop (.t m.e) (.t (Bel.e ⟨ws⟩)) (I 0) (I 0) .und .und .und .und with⟨e1,e2⟩ | ⟨j,⟨x,vs,H⟩,e1,e2,e3,e4,e5,e6⟩
   · have e2:exS aN K.mC _=_:=e2
     simp only[vm,List.map_nil,List.length_nil]at e2
     have:=ln ws.length
     rw[e1]
     generalize oL m tag l a c bl ws ws.length=L at*
     simp (disch:=omega) only[go_sem,K.dC,↓reduceIte,cb,bo,e2,Nat.reduceAdd,Nat.reduceSub,ne_eq,not_true_eq_false]
   · have e2:exS aN K.mC _=_:=e2
     simp only[vm,List.map_nil,List.length_nil]at e2
     rw[e1]
     simp only at e3 e4 e5 e6
     subst e3
     simp (disch:=omega) only[go_sem,K.dC,↓reduceIte,cb,bo,e2,Nat.reduceAdd,Nat.reduceSub,ne_eq,not_true_eq_false,e4,e5,e6,List.take_zero]
 · obtain⟨ws⟩:=b
   simp (disch:=omega) only[go_sem,K.dC,↓reduceIte,cb,bo,e0,ne_eq,not_false_eq_true]
theorem Mx{gc:Bool}{dead:List Nat}{c:C}{vs:List D}{H:aj}(P:Nat→St→Prop)(n:Nat)(Q:Ex×St→Prop)(h0:P 0 ⟨jx dead vs,H⟩)
 (hs:∀j st,j<n→P j st→∃st',fJ gc dead st.H.length (exS aN c st)=some st'∧P (j+1) st')
 (he:∀st,P n st→∃q,exS aN c st=some q∧q.1≠ .normal∧Q q):∃q,exS aN (.loop gc dead c) ⟨vs,H⟩=some q∧Q q:=by
 have key:∀(k j:Nat) (st:St),j+k=n→P j st→∃q,mz gc dead (exS aN c) st=some q∧Q q:=by
  intro k
  induction k with
  | zero=>
    intro j st hj hp
    obtain⟨q,h1,h2,h3⟩:=he st (by rw[← hj];exact hp)
    exact⟨q,c7 h1 h2,h3⟩
  | succ k ih=>
    intro j st hj hp
    obtain⟨st',h1,h2⟩:=hs j st (by omega) hp
    obtain⟨q,h3,h4⟩:=ih (j+1) st' (by omega) h2
    exact⟨q,jO h1 h3,h4⟩
 exact key n 0 _ (by omega) h0
abbrev ints(l:List Int):List D:=(l.map (T.int .i64)).map .t
abbrev whs(l:List Wh):List D:=(l.map Wh.e).map .t
def cC(out:List World)(x:World):Nat:=match (List.range out.length).find? (fun k=> !qL (nth out k).tags x.tags)with
 | some k=>k
 | none=>out.length
theorem uv(out:List World)(x:World):cC out x≤out.length:=by
 unfold cC
 split
 · rename_i k h;exact Nat.le_of_lt (x7 h).1
 · exact Nat.le_refl _
def iU(a b:List Wh):Nat→List Wh
 | 0=>a
 | p+1=>(iU a b p).set p (iR (nth a p) (nth b p)).1
theorem gJ(a b:List Wh):∀p,(iU a b p).length=a.length
 | 0=>rfl
 | p+1=>by simp only[iU,List.length_set,gJ a b p]
theorem yq(a b:List Wh):∀p q,p≤q→nth (iU a b p) q=nth a q
 | 0,q,_=>rfl
 | p+1,q,h=>by
   have e:nth ((iU a b p).set p (iR (nth a p) (nth b p)).1) q=nth (iU a b p) q:=by
    unfold nth;rw[List.getD_eq_getElem?_getD,List.getElem?_set_ne (by omega),←List.getD_eq_getElem?_getD]
   simp only[iU,e]
   exact yq a b p q (by omega)
def gy(a b:List Wh):List Wh:=iU a b (min a.length b.length)
def gK(out:List World)(x:World):List World:=
 if cC out x<out.length∧(nth out (cC out x)).tags=x.tags then out.set (cC out x) ⟨x.tags,gy (nth out (cC out x)).whr x.whr⟩
 else out.take (cC out x)++[x]++out.drop (cC out x)
def oM(l:List World):Nat→List World
 | 0=>[]
 | j+1=>gK (oM l j) (nth l j)
def m7(l:List World):List World:=oM l l.length
structure Rp(H:aj)(id:Nat)(es:List D)(fa fb:Nat→Nat)(out:List World):Prop where
 arr:H[id]?=some (.arr 2 false 0 es)
 len:es.length=out.length
 el:∀j,j<out.length→es[j]?=some (.agg [.ref (fa j) 0 (nth out j).tags.length,.ref (fb j) 0 (nth out j).whr.length])
 ha:∀j,j<out.length→H[fa j]?=some (.arr 1 false 0 (ints (nth out j).tags))
 hb:∀j,j<out.length→H[fb j]?=some (.arr 2 false 0 (whs (nth out j).whr))
 na:∀j,j<out.length→fa j≠id
 nb:∀j,j<out.length→fb j≠id
 nab:∀i j,i<out.length→j<out.length→fa i≠fb j
 nbb:∀i j,i<out.length→j<out.length→i≠j→fb i≠fb j
def Rep(H:aj)(v:D)(out:List World):Prop:=(v= .nil∧out=[])∨∃id es fa fb,v= .ref id 0 out.length∧0<out.length∧Rp H id es fa fb out
theorem Rj(l:List World)(i:Nat)(hi:i<l.length)(out:List World)(ho:out.length≤1000000)(hso:∀x∈out,x.sz)(hsx:(nth l i).sz)(H:aj)(v:D)(hr:Rep H v out)(a b:D):
 exS aN K.o8 ⟨[.t (.sl (l.map World.e)),a,v,I i,I 0,b],H⟩=some (.exit 2,⟨[.t (.sl (l.map World.e)),.und,v,I i,I (cC out (nth l i)),.und],H⟩):=by
 rcases hr with⟨rfl,rfl⟩ | ⟨id,es,fa,fb,rfl,h0,hr⟩
 · have:cC [] (nth l i)=0:=rfl
   rw[this]
   refine uZ (c7 ?_ (by simp))
   simp (disch:=omega) only[go_sem,K.ja,↓reduceIte,Nat.reduceAdd,Nat.reduceSub]
 · have key:exS aN K.o8 ⟨[.t (.sl (l.map World.e)),a,.ref id 0 out.length,I i,I 0,b],H⟩=some (match (List.range out.length).find? (fun k=> !qL (nth out k).tags (nth l i).tags)with
    | some k=>(.exit 2,⟨[.t (.sl (l.map World.e)),.und,.ref id 0 out.length,I i,I k,.und],H⟩)
    | none=>(.exit 2,⟨[.t (.sl (l.map World.e)),.und,.ref id 0 out.length,I i,I out.length,.und],H⟩)):=by
    refine b7 (fun k=>⟨[.t (.sl (l.map World.e)),.und,.ref id 0 out.length,I i,I k,.und],H⟩) out.length _ _ _ rfl ?_ ?_ ?_ (by simp)
    · intro k hk hp
      have hp:qL (nth out k).tags (nth l i).tags=true:=by simpa using hp
      have s1:=(hso _ (aa hk)).1
      have s2:=hsx.1
      have ls:=Ea (nth out k).tags (nth l i).tags s1 s2
      have e1:=hr.arr
      have e2:=hr.len
      have e3:=hr.el k hk
      have e4:=hr.ha k hk
      generalize nth out k=y at*
      obtain⟨ta,wa⟩:=y
      generalize hx:nth l i=x at*
      obtain⟨tb,wb⟩:=x
      simp only at s1 s2 ls e3 e4 hp
      simp (disch:=omega) only[go_sem,K.ja,↓reduceIte,Nat.reduceAdd,Nat.reduceSub,e1,e2,e3,e4,hx,ls,hp]
      done
    · intro k hk hp
      have hp:qL (nth out k).tags (nth l i).tags=false:=by simpa using hp
      have s1:=(hso _ (aa hk)).1
      have s2:=hsx.1
      have ls:=Ea (nth out k).tags (nth l i).tags s1 s2
      have e1:=hr.arr
      have e2:=hr.len
      have e3:=hr.el k hk
      have e4:=hr.ha k hk
      generalize nth out k=y at*
      obtain⟨ta,wa⟩:=y
      generalize hx:nth l i=x at*
      obtain⟨tb,wb⟩:=x
      simp only at s1 s2 ls e3 e4 hp
      refine⟨?_,by simp⟩
      simp (disch:=omega) only[go_sem,K.ja,↓reduceIte,Nat.reduceAdd,Nat.reduceSub,e1,e2,e3,e4,hx,ls,hp]
      done
    · simp (disch:=omega) only[go_sem,K.ja,↓reduceIte,Nat.reduceAdd,Nat.reduceSub]
   rw[key]
   unfold cC
   cases (List.range out.length).find? (fun k=> !qL (nth out k).tags (nth l i).tags)<;>rfl
theorem Rk(l:List World)(i:Nat)(hi:i<l.length)(out:List World)(ho:out.length≤1000000)(hso:∀x∈out,x.sz)(hsx:(nth l i).sz)(H:aj)(id:Nat)(es:List D)(fa fb:Nat→Nat)
 (hr:Rp H id es fa fb out) (k:Nat) (hk:k<out.length) (a:D):
 exS aN K.tT ⟨[.t (.sl (l.map World.e)),a,.ref id 0 out.length,I i,I k,I 0],H⟩=
 some (.exit 4,⟨[.t (.sl (l.map World.e)),.und,.ref id 0 out.length,I i,I k,I ((min (nth out k).whr.length (nth l i).whr.length:Nat):Int)],H.set (fb k) (.arr 2 false 0 (whs (gy (nth out k).whr (nth l i).whr)))⟩):=by
 have e1:=hr.arr
 have e2:=hr.len
 have e3:=hr.el k hk
 have e5:=hr.hb k hk
 have e6:=hr.nb k hk
 have e7:=mK e5
 obtain⟨s1,s2,s3⟩:=hso _ (aa hk)
 obtain⟨x1,x2,x3⟩:=hsx
 generalize nth out k=y at*
 obtain⟨ta,wa⟩:=y
 generalize hx:nth l i=x at*
 obtain⟨tb,wb⟩:=x
 simp only at s1 s2 s3 x1 x2 x3 e3 e5 ⊢
 have jl:=gJ wa wb
 have q1:∀o,(H.set (fb k) o)[id]?=H[id]?:=fun o=>jb e6
 have q2:∀o,(H.set (fb k) o)[fb k]?=some o:=fun o=>oI e7
 refine b5 (fun p=>⟨[.t (.sl (l.map World.e)),.und,.ref id 0 out.length,I i,I k,I p],H.set (fb k) (.arr 2 false 0 (whs (iU wa wb p)))⟩) (min wa.length wb.length) ?_ ?_ ?_ (by simp)
 · show(⟨_,H⟩:St)=⟨_,H.set (fb k) (.arr 2 false 0 (whs wa))⟩
   rw[As e5];rfl
 · intro p hp
   have jp:=jl p
   have jn:=yq wa wb p p (Nat.le_refl _)
   have jo:=Qc (nth wa p) (nth wb p) (s3 _ (aa (by omega)))
   have hj:iU wa wb (p+1)=(iU wa wb p).set p (iR (nth wa p) (nth wb p)).1:=rfl
   rw[hj]
   generalize iU wa wb p=J at*
   generalize hu:nth wb p=u at*
   generalize nth wa p=w at*
   generalize iR w u=r at*
   obtain⟨⟨rt,rf⟩,re⟩:=r
   simp only at jo ⊢
   simp (disch:=omega) only[go_sem,K.kT,↓reduceIte,Nat.reduceAdd,Nat.reduceSub,q1,q2,e1,e2,e3,rz,hx,hu,jn,jo]
 · have jp:=jl (min wa.length wb.length)
   have hj:gy wa wb=iU wa wb (min wa.length wb.length):=rfl
   rw[hj]
   generalize iU wa wb (min wa.length wb.length)=J at*
   by_cases c:wa.length≤wb.length
   · simp (disch:=omega) only[go_sem,K.kT,↓reduceIte,Nat.reduceAdd,Nat.reduceSub,q1,q2,e1,e2,e3,rz,hx,Nat.min_eq_left c]
   · have hm:min wa.length wb.length=wb.length:=by omega
     simp (disch:=omega) only[go_sem,K.kT,↓reduceIte,Nat.reduceAdd,Nat.reduceSub,q1,q2,e1,e2,e3,rz,hx,hm]
theorem wz{sz:Nat}{l:List D}(h:∀e∈l,e.cells.length=sz):cG sz l=true:=by
 cases l with
 | nil=>rfl
 | cons d r=>rw[AH,eZ];exact h d List.mem_cons_self
theorem Rp.size{H:aj}{id:Nat}{es:List D}{fa fb:Nat→Nat}{out:List World}(hr:Rp H id es fa fb out):∀e∈es,e.cells.length=2:=by
 intro e he
 obtain⟨j,hj⟩:=List.mem_iff_getElem?.1 he
 have hl:=(List.getElem?_eq_some_iff.1 hj).1
 rw[hr.el j (by rw[← hr.len];exact hl)]at hj
 cases hj;rfl
theorem JT{α:Type}(l:List α)(k:Nat)(hk:k≤l.length)(x:α)(j:Nat):(l.take k++[x]++l.drop k)[j]?=if j<k then l[j]? else if j=k then some x else l[j-1]?:=by
 have hl:(l.take k).length=k:=by rw[List.length_take];omega
 rw[List.append_assoc]
 by_cases h1:j<k
 · rw[if_pos h1,List.getElem?_append_left (by omega),List.getElem?_take_of_lt h1]
 · rw[if_neg h1,List.getElem?_append_right (by omega),hl]
   by_cases h2:j=k
   · rw[if_pos h2,h2,Nat.sub_self];rfl
   · rw[if_neg h2,List.getElem?_append_right (by simp;omega)]
     simp only[List.length_singleton,List.getElem?_drop]
     congr 1;omega
theorem En{α:Type} [Dat α](l:List α)(k:Nat)(hk:k≤l.length)(x:α)(j:Nat):nth (l.take k++[x]++l.drop k) j=if j<k then nth l j else if j=k then x else nth l (j-1):=by
 unfold nth
 rw[List.getD_eq_getElem?_getD,JT l k hk]
 split
 · rw[List.getD_eq_getElem?_getD]
 · split
   · rfl
   · rw[List.getD_eq_getElem?_getD]
theorem sV{α:Type} [Dat α](l:List α)(k:Nat)(hk:k<l.length)(x:α)(j:Nat):nth (l.set k x) j=if j=k then x else nth l j:=by
 unfold nth
 rw[List.getD_eq_getElem?_getD]
 by_cases h:j=k
 · rw[if_pos h,h,List.getElem?_set_self hk];rfl
 · rw[if_neg h,List.getElem?_set_ne (fun e=>h e.symm),List.getD_eq_getElem?_getD]
theorem Rp.ins{H:aj}{id:Nat}{es:List D}{fa fb:Nat→Nat}{out:List World}(hr:Rp H id es fa fb out){k:Nat}(hk:k≤out.length)(x:World)(o:Obj):
 Rp (H++[.arr 2 false 0 (es.take k++[.agg [.ref (H.length+1) 0 x.tags.length,.ref (H.length+2) 0 x.whr.length]]++es.drop k),.arr 1 false 0 (ints x.tags),.arr 2 false 0 (whs x.whr),o]) H.length
  (es.take k++[.agg [.ref (H.length+1) 0 x.tags.length,.ref (H.length+2) 0 x.whr.length]]++es.drop k)
  (fun j=>if j<k then fa j else if j=k then H.length+1 else fa (j-1)) (fun j=>if j<k then fb j else if j=k then H.length+2 else fb (j-1)) (out.take k++[x]++out.drop k):=by
 have ol:(out.take k++[x]++out.drop k).length=out.length+1:=by
  rw[List.length_append,List.length_append,List.length_take,List.length_drop,List.length_singleton];omega
 have e2:=hr.len
 have ba:∀j,j<out.length→fa j<H.length:=fun j hj=>mK (hr.ha j hj)
 have bb:∀j,j<out.length→fb j<H.length:=fun j hj=>mK (hr.hb j hj)
 refine⟨iS,?_,?_,?_,?_,?_,?_,?_,?_⟩
 · rw[ol,List.length_append,List.length_append,List.length_take,List.length_drop,List.length_singleton];omega
 · intro j hj
   rw[ol]at hj
   simp only[JT es k (by omega),En out k hk]
   by_cases h1:j<k
   · simp only[if_pos h1];exact hr.el j (by omega)
   · by_cases h2:j=k
     · simp only[if_neg h1,if_pos h2]
     · simp only[if_neg h1,if_neg h2];exact hr.el (j-1) (by omega)
 · intro j hj
   rw[ol]at hj
   simp only[En out k hk]
   by_cases h1:j<k
   · simp only[if_pos h1];rw[ir (ba j (by omega))];exact hr.ha j (by omega)
   · by_cases h2:j=k
     · simp only[if_neg h1,if_pos h2];rw[gq];rfl
     · simp only[if_neg h1,if_neg h2];rw[ir (ba (j-1) (by omega))];exact hr.ha (j-1) (by omega)
 · intro j hj
   rw[ol]at hj
   simp only[En out k hk]
   by_cases h1:j<k
   · simp only[if_pos h1];rw[ir (bb j (by omega))];exact hr.hb j (by omega)
   · by_cases h2:j=k
     · simp only[if_neg h1,if_pos h2];rw[gq];rfl
     · simp only[if_neg h1,if_neg h2];rw[ir (bb (j-1) (by omega))];exact hr.hb (j-1) (by omega)
 · intro j hj
   rw[ol]at hj
   have b1:=ba j
   have b2:=ba (j-1)
   split
   · have:=b1 (by omega);omega
   · split
     · omega
     · have:=b2 (by omega);omega
 · intro j hj
   rw[ol]at hj
   have b1:=bb j
   have b2:=bb (j-1)
   split
   · have:=b1 (by omega);omega
   · split
     · omega
     · have:=b2 (by omega);omega
 · intro i j hi hj
   rw[ol]at hi hj
   have a1:=ba i
   have a2:=ba (i-1)
   have b1:=bb j
   have b2:=bb (j-1)
   by_cases h1:i<k
   · rw[if_pos h1]
     have:=a1 (by omega)
     by_cases h2:j<k
     · rw[if_pos h2];exact hr.nab i j (by omega) (by omega)
     · rw[if_neg h2]
       by_cases h3:j=k
       · rw[if_pos h3];omega
       · rw[if_neg h3];exact hr.nab i (j-1) (by omega) (by omega)
   · rw[if_neg h1]
     by_cases h4:i=k
     · rw[if_pos h4]
       split
       · have:=b1 (by omega);omega
       · split
         · omega
         · have:=b2 (by omega);omega
     · rw[if_neg h4]
       have:=a2 (by omega)
       by_cases h2:j<k
       · rw[if_pos h2];exact hr.nab (i-1) j (by omega) (by omega)
       · rw[if_neg h2]
         by_cases h3:j=k
         · rw[if_pos h3];omega
         · rw[if_neg h3];exact hr.nab (i-1) (j-1) (by omega) (by omega)
 · intro i j hi hj hne
   rw[ol]at hi hj
   have a1:=bb i
   have a2:=bb (i-1)
   have b1:=bb j
   have b2:=bb (j-1)
   by_cases h1:i<k
   · rw[if_pos h1]
     have:=a1 (by omega)
     by_cases h2:j<k
     · rw[if_pos h2];exact hr.nbb i j (by omega) (by omega) hne
     · rw[if_neg h2]
       by_cases h3:j=k
       · rw[if_pos h3];omega
       · rw[if_neg h3];exact hr.nbb i (j-1) (by omega) (by omega) (by omega)
   · rw[if_neg h1]
     by_cases h4:i=k
     · rw[if_pos h4]
       split
       · have:=b1 (by omega);omega
       · split
         · omega
         · have:=b2 (by omega);omega
     · rw[if_neg h4]
       have:=a2 (by omega)
       by_cases h2:j<k
       · rw[if_pos h2];exact hr.nbb (i-1) j (by omega) (by omega) (by omega)
       · rw[if_neg h2]
         by_cases h3:j=k
         · rw[if_pos h3];omega
         · rw[if_neg h3];exact hr.nbb (i-1) (j-1) (by omega) (by omega) (by omega)
theorem Rp.merge{H:aj}{id:Nat}{es:List D}{fa fb:Nat→Nat}{out:List World}(hr:Rp H id es fa fb out){k:Nat}(hk:k<out.length)(x:World)(ht:(nth out k).tags=x.tags)(hw:x.whr.length=(nth out k).whr.length):
 Rp (H.set (fb k) (.arr 2 false 0 (whs x.whr))) id es fa fb (out.set k x):=by
 have ol:(out.set k x).length=out.length:=List.length_set
 have nk:=hr.nb k hk
 have kl:=mK (hr.hb k hk)
 refine⟨by rw[jb nk];exact hr.arr,by rw[ol];exact hr.len,?_,?_,?_,by rw[ol];exact hr.na,by rw[ol];exact hr.nb,by rw[ol];exact hr.nab,by rw[ol];exact hr.nbb⟩
 · intro j hj
   rw[ol]at hj
   rw[hr.el j hj,sV out k hk]
   by_cases h:j=k
   · rw[if_pos h,h,ht,hw]
   · rw[if_neg h]
 · intro j hj
   rw[ol]at hj
   rw[jb (fun e=>hr.nab j k hj hk e.symm),hr.ha j hj,sV out k hk]
   by_cases h:j=k
   · rw[if_pos h,h,ht]
   · rw[if_neg h]
 · intro j hj
   rw[ol]at hj
   rw[sV out k hk]
   by_cases h:j=k
   · rw[if_pos h,h,oI kl]
   · rw[if_neg h,jb (fun e=>hr.nbb j k hj hk h e.symm)];exact hr.hb j hj
theorem G5(l:List World)(i:Nat)(hi:i<l.length)(hl:l.length≤1000000)(out:List World)(ho:out.length≤999999)(hso:∀x∈out,x.sz)(hsx:(nth l i).sz)(H:aj)(v:D)(hr:Rep H v out):
 ∃v' H',fJ false [1,4,5] H.length (exS aN K.dT ⟨[.t (.sl (l.map World.e)),.und,v,I i,.und,.und],H⟩)=some ⟨[.t (.sl (l.map World.e)),.und,v',I (i+1),.und,.und],H'⟩∧Rep H' v' (gK out (nth l i)):=by
 have l2:=Rj l i hi out (by omega) hso hsx H v hr
 have kl:=uv out (nth l i)
 have cw:=mc (nth l i) hsx
 rcases hr with⟨rfl,rfl⟩ | ⟨id,es,fa,fb,rfl,h0,hr⟩
 · have k0:cC [] (nth l i)=0:=rfl
   rw[k0]at l2
   have t1:gK [] (nth l i)=[nth l i]:=rfl
   rw[t1]
   generalize hx:nth l i=x at*
   obtain⟨tb,wb⟩:=x
   simp only at cw
   have run:fJ false [1,4,5] H.length (exS aN K.dT ⟨[.t (.sl (l.map World.e)),.und,.nil,I i,.und,.und],H⟩)=
    some ⟨[.t (.sl (l.map World.e)),.und,.ref H.length 0 1,I (i+1),.und,.und],H++[.arr 2 false 0 [.agg [.ref (H.length+1) 0 tb.length,.ref (H.length+2) 0 wb.length]],.arr 1 false 0 (ints tb),.arr 2 false 0 (whs wb),.arr 2 false 0 [.agg [.ref (H.length+1) 0 tb.length,.ref (H.length+2) 0 wb.length]]]⟩:=by
    simp (disch:=omega) only[go_sem,K.dT,↓reduceIte,Nat.reduceAdd,Nat.reduceSub,l2,hx,cw,iS,gq,mq,rA,Nat.add_assoc]
   refine⟨_,_,run,.inr ⟨H.length,_,fun _=>H.length+1,fun _=>H.length+2,rfl,by simp,⟨iS,rfl,?_,?_,?_,?_,?_,?_,?_⟩⟩⟩
   all_goals skip
   · intro j hj;obtain rfl:j=0:=by simpa using hj
     rfl
   · intro j hj;obtain rfl:j=0:=by simpa using hj
     rw[gq];rfl
   · intro j hj;obtain rfl:j=0:=by simpa using hj
     rw[gq];rfl
   · intro j hj;omega
   · intro j hj;omega
   · intro i j hi hj;omega
   · intro i j hi hj hne
     have h1:i=0:=by simpa using hi
     have h2:j=0:=by simpa using hj
     omega
 · have e1:=hr.arr
   have e2:=hr.len
   have e7:=mK e1
   by_cases c:cC out (nth l i)<out.length∧(nth out (cC out (nth l i))).tags=(nth l i).tags
   · obtain⟨ck,ct⟩:=c
     have l3:=Rk l i hi out (by omega) hso hsx H id es fa fb hr (cC out (nth l i)) ck
     have s1:=(hso _ (aa ck)).1
     have sm:=D1 (nth out (cC out (nth l i))).tags (nth l i).tags (by omega)
     have t1:gK out (nth l i)=out.set (cC out (nth l i)) ⟨(nth l i).tags,gy (nth out (cC out (nth l i))).whr (nth l i).whr⟩:=by unfold gK;rw[if_pos ⟨ck,ct⟩]
     rw[t1]
     simp only[ct,decide_true]at sm
     generalize cC out (nth l i)=k at*
     have e3:=hr.el k ck
     have e4:=hr.ha k ck
     have mg:=hr.merge ck ⟨(nth l i).tags,gy (nth out k).whr (nth l i).whr⟩ ct (gJ _ _ _)
     refine⟨.ref id 0 out.length,_,?_,.inr ⟨id,es,fa,fb,by rw[List.length_set],by rw[List.length_set];omega,mg⟩⟩
     generalize nth out k=y at*
     obtain⟨ta,wa⟩:=y
     simp only at ct
     subst ct
     generalize hx:nth l i=x at*
     obtain⟨tb,wb⟩:=x
     simp only at s1 sm e3 e4 cw l3 ⊢
     simp (disch:=omega) only[go_sem,K.dT,↓reduceIte,Nat.reduceAdd,Nat.reduceSub,l2,l3,hx,cw,sm,e1,e2,e3,e4]
   · have t1:gK out (nth l i)=out.take (cC out (nth l i))++[nth l i]++out.drop (cC out (nth l i)):=by unfold gK;rw[if_neg c]
     rw[t1]
     generalize cC out (nth l i)=k at*
     have hs1:cG 2 (es.take k)=true:=wz fun e he=>hr.size e (List.mem_of_mem_take he)
     have hs2:cG 2 (es.drop k)=true:=wz fun e he=>hr.size e (List.mem_of_mem_drop he)
     have hs3:(es.drop k).take (out.length-k)=es.drop k:=List.take_of_length_le (by simp[e2])
     have hs4:(es.take k).length=k:=by rw[List.length_take];omega
     have hs5:(es.drop k).length=out.length-k:=by rw[List.length_drop,e2]
     have hs6:k+(1+(out.length-k))=out.length+1:=by omega
     have s2:=hsx.1
     have run:fJ false [1,4,5] H.length (exS aN K.dT ⟨[.t (.sl (l.map World.e)),.und,.ref id 0 out.length,I i,.und,.und],H⟩)=
      some ⟨[.t (.sl (l.map World.e)),.und,.ref H.length 0 (out.length+1),I (i+1),.und,.und],H++[.arr 2 false 0 (es.take k++[.agg [.ref (H.length+1) 0 (nth l i).tags.length,.ref (H.length+2) 0 (nth l i).whr.length]]++es.drop k),.arr 1 false 0 (ints (nth l i).tags),.arr 2 false 0 (whs (nth l i).whr),.arr 2 false 0 [.agg [.ref (H.length+1) 0 (nth l i).tags.length,.ref (H.length+2) 0 (nth l i).whr.length]]]⟩:=by
      by_cases ck:k<out.length
      · have s1:=(hso _ (aa ck)).1
        have sm:=D1 (nth out k).tags (nth l i).tags (by omega)
        have ct:¬(nth out k).tags=(nth l i).tags:=fun h=>c ⟨ck,h⟩
        have e3:=hr.el k ck
        have e4:=hr.ha k ck
        generalize nth out k=y at*
        obtain⟨ta,wa⟩:=y
        generalize hx:nth l i=x at*
        obtain⟨tb,wb⟩:=x
        simp only at s1 s2 sm e3 e4 ct cw
        simp only[ct,decide_false]at sm
        simp (disch:=omega) only[go_sem,K.dT,↓reduceIte,Nat.reduceAdd,Nat.reduceSub,l2,hx,cw,sm,e1,e2,e3,e4,hs1,hs2,hs3,hs4,hs5,hs6,ir,iS,gq,mq,rA,Nat.add_assoc,Nat.sub_zero]
      · have ek:k=out.length:=by omega
        subst ek
        generalize hx:nth l i=x at*
        obtain⟨tb,wb⟩:=x
        simp only at s2 cw
        simp (disch:=omega) only[go_sem,K.dT,↓reduceIte,Nat.reduceAdd,Nat.reduceSub,l2,hx,cw,e1,e2,hs1,hs2,hs3,hs4,hs5,hs6,ir,iS,gq,mq,rA,Nat.add_assoc,Nat.sub_zero]
     exact⟨_,_,run,.inr ⟨H.length,_,_,_,by rw[List.length_append,List.length_append,List.length_take,List.length_drop,List.length_singleton,Nat.min_eq_left kl];congr 1;omega,by rw[List.length_append,List.length_append,List.length_singleton];omega,hr.ins kl (nth l i) _⟩⟩
theorem uw(out:List World)(x:World):(gK out x).length≤out.length+1∧out.length≤(gK out x).length∧1≤(gK out x).length:=by
 have kl:=uv out x
 unfold gK
 split
 · rename_i h
   rw[List.length_set];omega
 · rw[List.length_append,List.length_append,List.length_take,List.length_drop,List.length_singleton];omega
theorem CG(l:List World):∀j,(oM l j).length≤j
 | 0=>Nat.le_refl _
 | j+1=>by
   have:=CG l j
   have:=(uw (oM l j) (nth l j)).1
   simp only[oM];omega
theorem JU(a b:Wh):(iR a b).1.frm.length≤a.frm.length:=by
 unfold iR
 split
 · simp only[kU];omega
 · simp
theorem FR(a b:List Wh)(n:Nat)(h:∀w∈a,w.frm.length≤n):∀p,p≤a.length→∀w∈iU a b p,w.frm.length≤n
 | 0,_,w,hw=>h w hw
 | p+1,hp,w,hw=>by
   simp only[iU]at hw
   rcases List.mem_or_eq_of_mem_set hw with hw | rfl
   · exact FR a b n h p (by omega) w hw
   · exact Nat.le_trans (JU _ _) (h _ (aa (by omega)))
theorem My{out:List World}{x:World}(ho:∀y∈out,y.sz)(hx:x.sz):∀y∈gK out x,y.sz:=by
 intro y hy
 unfold gK at hy
 split at hy
 · rename_i h
   rcases List.mem_or_eq_of_mem_set hy with hy | rfl
   · exact ho y hy
   · obtain⟨s1,s2,s3⟩:=ho _ (aa h.1)
     refine⟨hx.1,?_,?_⟩
     · show(iU _ _ _).length≤_
       rw[gJ];exact s2
     · exact FR _ _ _ s3 _ (Nat.min_le_left _ _)
 · rcases List.mem_append.1 hy with hy | hy
   · rcases List.mem_append.1 hy with hy | hy
     · exact ho y (List.mem_of_mem_take hy)
     · rw[List.mem_singleton.1 hy];exact hx
   · exact ho y (List.mem_of_mem_drop hy)
theorem FT{l:List World}(hl:∀x∈l,x.sz):∀j,j≤l.length→∀y∈oM l j,y.sz
 | 0,_,y,hy=>by simp[oM]at hy
 | j+1,h,y,hy=>My (FT hl j (by omega)) (hl _ (aa (by omega))) y hy
theorem Rp.frz{H:aj}{id:Nat}{es:List D}{fa fb:Nat→Nat}{out:List World}(hr:Rp H id es fa fb out):
 bQ (frz H 8) es=some (out.map World.e)∧∀i∈es.flatMap (fq H 8),i≠id:=by
 have hl:=hr.len
 have key:∀(j:Nat) (hj:j<out.length),Go.Ev.frz H 8 (.agg [.ref (fa j) 0 (nth out j).tags.length,.ref (fb j) 0 (nth out j).whr.length])=some (nth out j).e∧
  fq H 8 (.agg [.ref (fa j) 0 (nth out j).tags.length,.ref (fb j) 0 (nth out j).whr.length])=[fa j,fb j]:=by
  intro j hj
  have h1:=hr.ha j hj
  have h2:=hr.hb j hj
  simp (disch:=omega) only[go_sem,h1,h2,ints,whs,↓reduceIte]
 constructor
 · have:∀(es:List D) (ts:List T),es.length=ts.length→(∀(j:Nat) e t,es[j]?=some e→ts[j]?=some t→Go.Ev.frz H 8 e=some t)→bQ (Go.Ev.frz H 8) es=some ts:=by
    intro es
    induction es with
    | nil=>intro ts h _;cases ts with
      | nil=>rfl
      | cons=>simp at h
    | cons e es ih=>
      intro ts h hh
      cases ts with
      | nil=>simp at h
      | cons t ts=>
        have h1:=hh 0 e t rfl rfl
        have h2:=ih ts (by simpa using h) fun j e t he ht=>hh (j+1) e t (by simpa using he) (by simpa using ht)
        simp only[bQ,h1,Option.bind_some,h2,Option.map_some]
   refine this es _ (by rw[List.length_map,hl]) fun j e t he ht=>?_
   have hj:j<out.length:=by rw[← hl];exact(List.getElem?_eq_some_iff.1 he).1
   rw[hr.el j hj]at he
   rw[dz _ hj]at ht
   cases he;cases ht
   exact(key j hj).1
 · intro i hi
   obtain⟨e,he,hi⟩:=List.mem_flatMap.1 hi
   obtain⟨j,hj⟩:=List.mem_iff_getElem?.1 he
   have hjl:j<out.length:=by rw[← hl];exact(List.getElem?_eq_some_iff.1 hj).1
   rw[hr.el j hjl]at hj
   cases hj
   rw[(key j hjl).2]at hi
   simp only[List.mem_cons,List.not_mem_nil,or_false]at hi
   rcases hi with rfl | rfl
   · exact hr.na j hjl
   · exact hr.nb j hjl
theorem Rl(l:List World)(h0:1≤l.length)(hl:l.length≤100000)(hs:∀x∈l,x.sz):
 aN 1 N.gN [.t (.sl (l.map World.e))] []=some (.ref 0 0 (m7 l).length,[.arr 2 false 0 (((m7 l).map World.e).map .t)]):=by
 refine ax K.qz rfl ?_
 have loop:∀a b c:D,∃q,exS aN K.tU ⟨[.t (.sl (l.map World.e)),a,.nil,I 0,b,c],[]⟩=some q∧∃v H,q=(.exit 0,⟨[.t (.sl (l.map World.e)),.und,v,I l.length,.und,.und],H⟩)∧Rep H v (m7 l):=by
  intro a b c
  refine Mx (fun j st=>∃v H,st=⟨[.t (.sl (l.map World.e)),.und,v,I j,.und,.und],H⟩∧Rep H v (oM l j)) l.length _ ⟨.nil,[],rfl,.inl ⟨rfl,rfl⟩⟩ ?_ ?_
  · rintro j st hj ⟨v,H,rfl,hr⟩
    have ln:=CG l j
    obtain⟨v',H',h1,h2⟩:=G5 l j hj (by omega) (oM l j) (by omega) (FT hs j (by omega)) (hs _ (aa hj)) H v hr
    exact⟨_,h1,v',H',rfl,h2⟩
  · rintro st ⟨v,H,rfl,hr⟩
    refine⟨(.exit 0,⟨[.t (.sl (l.map World.e)),.und,v,I l.length,.und,.und],H⟩),?_,by simp,v,H,rfl,hr⟩
    simp (disch:=omega) only[go_sem,K.dT,↓reduceIte,Nat.reduceAdd,Nat.reduceSub]
 obtain⟨q,hq,v,H,rfl,hr⟩:=loop .nil .und .und
 have nz:1≤(m7 l).length:=by
  unfold m7
  cases hn:l.length with
  | zero=>omega
  | succ n=>exact(uw _ _).2.2
 rcases hr with⟨rfl,he⟩ | ⟨id,es,fa,fb,rfl,h0,hr⟩
 · rw[he]at nz;simp at nz
 · obtain⟨f1,f2⟩:=hr.frz
   have fin:=D6 H id 2 (m7 l).length es _ hr.arr hr.len.symm f1 f2
   simp (disch:=omega) only[go_sem,K.gN,↓reduceIte,Nat.reduceAdd,Nat.reduceSub,hq,fin]
@[go_sem] theorem Oo {α β γ : Type} [Dat α] (f : β → γ) (g : α → β) {l : List α} {i j : Nat} {x : α} (h : j < l.length) : (((l.set i x).map g).map f)[j]? = some (f (g (nth (l.set i x) j))) := xc f g (by rw [List.length_set]; exact h)
def G6(l:List Int)(i j:Nat):List Int:=(l.set i (nth l j)).set j (nth l i)
def sW(i j:Nat)(t:Int)(x:World):World:=⟨G6 x.tags i j,(x.whr.set i (lT (nth x.whr i) t).1).set j (lT (nth x.whr j) t).1⟩
def yr(i j:Nat)(t:Int)(x:World)(out:List World):List World:=if Mw (nth x.whr i) (nth x.whr j) t=true then out++[sW i j t x]else out
def iu(i j:Nat)(t:Int)(ws:List World):Nat→List World
 | 0=>ws
 | k+1=>yr i j t (nth ws k) (iu i j t ws k)
def mX(m:aT)(b:Bel)(i j t:Int):Bel×Int:=
 if qf m b=false then(b,6)else if i<0∨((nth b.worlds 0).tags.length:Int)≤i∨j<0∨((nth b.worlds 0).tags.length:Int)≤j∨i=j then(b,19)
 else if ¬inT t then(b,8)else if 24<(m7 (iu i.toNat j.toNat t b.worlds b.worlds.length)).length then(b,44)else(⟨m7 (iu i.toNat j.toNat t b.worlds b.worlds.length)⟩,0)
theorem JV(i j:Nat)(t:Int)(x:World)(out:List World):out.length≤(yr i j t x out).length∧(yr i j t x out).length≤out.length+1:=by
 unfold yr;split<;>(try rw[List.length_append,List.length_singleton])<;>omega
theorem rD(i j:Nat)(t:Int)(ws:List World):∀k,ws.length≤(iu i j t ws k).length∧(iu i j t ws k).length≤ws.length+k
 | 0=>⟨Nat.le_refl _,Nat.le_refl _⟩
 | k+1=>by
   have h1:=rD i j t ws k
   have h2:=JV i j t (nth ws k) (iu i j t ws k)
   simp only[iu];omega
abbrev exH(m:aT)(ws out:List World):aj:=[.box (af m),.box [.t (.sl (ws.map World.e))],.box [.nil],.arr 2 false 0 ((out.map World.e).map .t)]
theorem G7(m:aT)(ws:List World)(hw:ws.length≤100000)(i j:Nat)(hij:i≠j)(t:Int)(k:Nat)(hk:k<ws.length)(hs:(nth ws k).sz)
 (i1:i<(nth ws k).tags.length) (j1:j<(nth ws k).tags.length) (hl:(nth ws k).whr.length=(nth ws k).tags.length) (out:List World) (ho:out.length≤1000000):
 fJ true [0,1,5,8,9,12] 4 (exS aN K.fL ⟨[.und,.und,I i,I j,I t,.und,.bp 1 0,.bp 2 0,.und,.und,.ref 3 0 out.length,I k,.und],exH m ws out⟩)=
  some ⟨[.und,.und,I i,I j,I t,.und,.bp 1 0,.bp 2 0,.und,.und,.ref 3 0 (yr i j t (nth ws k) out).length,I (k+1),.und],exH m ws (yr i j t (nth ws k) out)⟩:=by
 have c1:=mc (nth ws k) hs
 have mt:=Rg (nth (nth ws k).whr i) (nth (nth ws k).whr j) t (hs.2.2 _ (aa (by omega)))
 have r1:=Fx (nth (nth ws k).whr i) t (hs.2.2 _ (aa (by omega)))
 have r2:=Fx (nth (nth ws k).whr j) t (hs.2.2 _ (aa (by omega)))
 unfold yr sW G6
 have n1:∀w,nth ((nth ws k).whr.set i w) j=nth (nth ws k).whr j:=fun w=>by rw[sV _ _ (by omega),if_neg (fun e=>hij e.symm)]
 generalize hx:nth ws k=x at*
 obtain⟨tags,whr⟩:=x
 obtain⟨s1,s2,s3⟩:=hs
 simp only at*
 generalize hwi:nth whr i=wi at*
 generalize hwj:nth whr j=wj at*
 generalize lT wi t=ri at*
 obtain⟨⟨t1,f1⟩,e1⟩:=ri
 generalize lT wj t=rj at*
 obtain⟨⟨t2,f2⟩,e2⟩:=rj
 obtain⟨ti,fi⟩:=wi
 obtain⟨tj,fj⟩:=wj
 simp only at*
 cases hm:Mw ⟨ti,fi⟩ ⟨tj,fj⟩ t with
 | true=>
   rw[hm]at mt
   simp (disch:=omega) only[go_sem,K.fL,↓reduceIte,exH,hx,hwi,hwj,n1,c1,mt,r1,r2,Nat.reduceAdd,Nat.reduceSub]
 | false=>
   rw[hm]at mt
   simp (disch:=omega) only[go_sem,K.fL,↓reduceIte,exH,hx,hwi,hwj,n1,c1,mt,r1,r2,Nat.reduceAdd,Nat.reduceSub,Bool.false_eq_true]
theorem rE(w:Wh)(t:Int):(lT w t).1.frm=w.frm:=by unfold lT;split<;>rfl
theorem Mz{i j:Nat}{t:Int}{x:World}(h:x.sz)(hi:i<x.whr.length)(hj:j<x.whr.length):(sW i j t x).sz:=by
 obtain⟨s1,s2,s3⟩:=h
 refine⟨by simpa [sW,G6]using s1,by simpa [sW]using s2,fun w hw=>?_⟩
 simp only[sW]at hw
 rcases List.mem_or_eq_of_mem_set hw with hw | rfl
 · rcases List.mem_or_eq_of_mem_set hw with hw | rfl
   · exact s3 w hw
   · rw[rE];exact s3 _ (aa hi)
 · rw[rE];exact s3 _ (aa hj)
theorem yu{ws:List World}(h:∀x∈ws,x.sz){i j:Nat}{t:Int}(hi:∀k,k<ws.length→i<(nth ws k).whr.length)(hj:∀k,k<ws.length→j<(nth ws k).whr.length):∀k,k≤ws.length→∀x∈iu i j t ws k,x.sz
 | 0,_,x,hx=>h x hx
 | k+1,hk,x,hx=>by
   simp only[iu,yr]at hx
   split at hx
   · rcases List.mem_append.1 hx with hx | hx
     · exact yu h hi hj k (by omega) x hx
     · rw[List.mem_singleton.1 hx];exact Mz (h _ (aa (by omega))) (hi k (by omega)) (hj k (by omega))
   · exact yu h hi hj k (by omega) x hx
theorem G8{m:aT}(h:m.ok)(b:Bel)(hs:b.sz)(i j t:Int):
 aN 0 N.bk [.t m.e,.t b.e,I i,I j,I t] []=some (.tup [.t (mX m b i j t).1.e,I (mX m b i j t).2],[]):=by
 refine ax K.lG rfl ?_
 have cb:=vl b hs
 have cb1:=Eb b hs
 have vb:=Jy h b hs
 unfold mX
 cases hb:qf m b with
 | false=>
   rw[hb]at vb
   obtain⟨ws⟩:=b
   simp (disch:=omega) only[go_sem,K.bk,↓reduceIte,cb,vb,Nat.reduceAdd,Nat.reduceSub]
 | true=>
   rw[hb]at vb
   obtain⟨w1,w2,f1,f2,w5⟩:=fN hb
   obtain⟨ws⟩:=b
   obtain⟨s1,s2⟩:=hs
   simp only at s1 s2 w1 w2 w5 f1 f2 cb cb1 vb ⊢
   have g0:(ws.map World.e)[0]?=some (nth ws 0).e:=dz _ (by omega)
   have wl:∀k,k<ws.length→(nth ws k).tags.length=(nth ws 0).tags.length∧(nth ws k).whr.length=(nth ws 0).tags.length:=fun k hk=>by
    obtain⟨q1,q2, -⟩:=gE (w5 k hk)
    exact⟨q1,q2⟩
   generalize hx:nth ws 0=x at*
   obtain⟨first,whr⟩:=x
   simp only at f1 f2 wl g0 ⊢
   rw[if_neg (by simp)]
   by_cases c1:i<0
   · rw[if_pos (by omega)]
     simp (disch:=omega) only[go_sem,K.bk,↓reduceIte,cb,vb,hx,g0,c1,Nat.reduceAdd,Nat.reduceSub]
   · by_cases c2:(first.length:Int)≤i
     · rw[if_pos (by omega)]
       simp (disch:=omega) only[go_sem,K.bk,↓reduceIte,cb,vb,hx,g0,c1,c2,Nat.reduceAdd,Nat.reduceSub]
     · by_cases c3:j<0
       · rw[if_pos (by omega)]
         simp (disch:=omega) only[go_sem,K.bk,↓reduceIte,cb,vb,hx,g0,c1,c2,c3,Nat.reduceAdd,Nat.reduceSub]
       · by_cases c4:(first.length:Int)≤j
         · rw[if_pos (by omega)]
           simp (disch:=omega) only[go_sem,K.bk,↓reduceIte,cb,vb,hx,g0,c1,c2,c3,c4,Nat.reduceAdd,Nat.reduceSub]
         · by_cases c5:i=j
           · rw[if_pos (by omega)]
             simp (disch:=omega) only[go_sem,K.bk,↓reduceIte,cb,vb,hx,g0,c1,c2,c3,c4,c5,Nat.reduceAdd,Nat.reduceSub]
           · rw[if_neg (by omega)]
             by_cases ct:inT t
             · have ct':=ct
               unfold inT at ct'
               rw[if_neg (fun h=>h ct)]
               obtain⟨i',rfl⟩:=Int.eq_ofNat_of_zero_le (show 0≤i by omega)
               obtain⟨j',rfl⟩:=Int.eq_ofNat_of_zero_le (show 0≤j by omega)
               simp only[Int.toNat_natCast]
               have ln:=rD i' j' t ws
               have loop:∀a b c d e f:D,exS aN K.oD ⟨[a,b,I i',I j',I t,c,.bp 1 0,.bp 2 0,d,e,.ref 3 0 ws.length,I 0,f],exH m ws ws⟩=
                some (.exit 0,⟨[.und,.und,I i',I j',I t,.und,.bp 1 0,.bp 2 0,.und,.und,.ref 3 0 (iu i' j' t ws ws.length).length,I ws.length,.und],exH m ws (iu i' j' t ws ws.length)⟩):=by
                intro a b c d e f
                refine b5 (fun k=>⟨[.und,.und,I i',I j',I t,.und,.bp 1 0,.bp 2 0,.und,.und,.ref 3 0 (iu i' j' t ws k).length,I k,.und],exH m ws (iu i' j' t ws k)⟩) ws.length rfl ?_ ?_ (by simp)
                · intro k hk
                  obtain⟨q1,q2⟩:=wl k hk
                  have:=ln k
                  exact G7 m ws (by omega) i' j' (by omega) t k hk (s2 _ (aa hk)) (by omega) (by omega) (by omega) _ (by omega)
                · have:=ln ws.length
                  generalize iu i' j' t ws ws.length=L at*
                  simp (disch:=omega) only[go_sem,K.fL,↓reduceIte,exH,Nat.reduceAdd,Nat.reduceSub]
               have ln:=ln ws.length
               have sz:=yu (t:=t) s2 (i:=i') (j:=j') (fun k hk=>by obtain⟨q1,q2⟩:=wl k hk;omega) (fun k hk=>by obtain⟨q1,q2⟩:=wl k hk;omega) ws.length (Nat.le_refl _)
               have ty:=Rl (iu i' j' t ws ws.length) (by omega) (by omega) sz
               generalize iu i' j' t ws ws.length=L at*
               generalize m7 L=Z at*
               simp only[exH]at loop
               by_cases c6:24<Z.length
               · simp (disch:=omega) only[go_sem,K.bk,↓reduceIte,cb,cb1,vb,hx,g0,c1,c2,c3,c4,c5,c6,loop,ty,Nat.reduceAdd,Nat.reduceSub]
               · simp (disch:=omega) only[go_sem,K.bk,↓reduceIte,cb,cb1,vb,hx,g0,c1,c2,c3,c4,c5,c6,loop,ty,Nat.reduceAdd,Nat.reduceSub]
             · rw[if_pos ct]
               unfold inT at ct
               by_cases c6:t<0
               · simp (disch:=omega) only[go_sem,K.bk,↓reduceIte,cb,vb,hx,g0,c1,c2,c3,c4,c5,c6,Nat.reduceAdd,Nat.reduceSub]
               · simp (disch:=omega) only[go_sem,K.bk,↓reduceIte,cb,vb,hx,g0,c1,c2,c3,c4,c5,c6,Nat.reduceAdd,Nat.reduceSub]
def pU:Nat→List Int
 | 0=>[]
 | k+1=>pU k++[3+(k:Int)*2]
def aC.ly(d:aC)(n:Int):Nat→List Int×aC
 | 0=>([],d)
 | k+1=>((d.ly n k).1++[((d.ly n k).2.next n).1],((d.ly n k).2.next n).2)
theorem kg:∀k,(pU k).length=k
 | 0=>rfl
 | k+1=>by simp[pU,kg k]
theorem aC.jR(d:aC)(n:Int):∀k,(d.ly n k).1.length=k
 | 0=>rfl
 | k+1=>by simp[aC.ly,d.jR n k]
theorem aC.nC{d:aC}(h:d.dU)(n:Int):∀k,(d.ly n k).2.dU
 | 0=>h
 | k+1=>aC.aV (aC.nC h n k) n
structure BSt where
 b:Bel
 t:Int
 d:aC
def aC.kh(m:aT)(n:Int)(s:BSt):BSt:=
 let a:=s.d.next 60
 let c:=a.2.next 3
 if c.1=0 then
  let i:=c.2.next n
  let j:=i.2.next n
  let r:=mX m s.b i.1 j.1 (s.t+a.1)
  ⟨if r.2=0 then r.1 else s.b,s.t+a.1,j.2⟩
 else if c.1=1 then
  let g:=c.2.next n
  let l:=g.2.lk m.places.length
  let e:=l.2.next 9
  let r:=qT m s.b (3+2*g.1) l.1 (s.t+a.1) (s.t+a.1+e.1)
  ⟨if r.2=0 then r.1 else s.b,s.t+a.1,e.2⟩
 else
  let g:=c.2.next n
  let l:=g.2.lk m.places.length
  let e:=l.2.next 40
  let r:=qU m s.b (3+2*g.1) l.1 (s.t+a.1) (s.t+a.1+50) e.1
  ⟨if r.2=0 then r.1 else s.b,s.t+a.1,e.2⟩
def aC.vn(m:aT)(n:Int)(s:BSt):Nat→BSt
 | 0=>s
 | k+1=>aC.kh m n (aC.vn m n s k)
def aC.oh(d:aC):Nat:=(1+(d.next 3).1).toNat
def aC.lV(d:aC)(m:aT):List Int×aC:=(d.next 3).2.ly m.places.length d.oh
def aC.HW(d:aC)(m:aT):BSt:=⟨(rC m (pU d.oh) (d.lV m).1 ((d.lV m).2.next 100).1).1,100,(((d.lV m).2.next 100).2.next 5).2⟩
def aC.JW(d:aC)(m:aT):Nat:=(((d.lV m).2.next 100).2.next 5).1.toNat
def aC.XD(d:aC)(m:aT):BSt:=aC.vn m d.oh (d.HW m) (d.JW m)
def aC.qV(d:aC)(m:aT):Bel×aC:=((d.XD m).b,(d.XD m).d)
structure WOk(m:aT)(N:Nat)(x:World):Prop where
 tg:x.tags.length=N
 wh:x.whr.length=N
 fr:∀w∈x.whr,w.frm.length=m.places.length
 ti:∀w∈x.whr,inT w.time
structure BOk(m:aT)(N:Nat)(b:Bel):Prop where
 w1:1≤b.worlds.length
 w2:b.worlds.length≤24
 n1:1≤N
 n2:N≤12
 ws:∀x∈b.worlds,WOk m N x
theorem WOk.sz{m:aT}{N:Nat}{x:World}(h:WOk m N x)(hm:m.ok)(hn:N≤12):x.sz:=by
 have np:=hm.np
 obtain⟨t1,t2,t3, -⟩:=h
 exact⟨by omega,by omega,fun w hw=>by rw[t3 w hw];omega⟩
theorem BOk.sz{m:aT}{N:Nat}{b:Bel}(h:BOk m N b)(hm:m.ok):b.sz:=
 ⟨by have:=h.w2;omega,fun x hx=>(h.ws x hx).sz hm h.n2⟩
theorem AN{m:aT}{n:Int}{s:BSt}(h:s.d.dU):(aC.kh m n s).d.dU:=by
 unfold aC.kh
 simp only
 have l1:=aC.aV h 60
 generalize s.d.next 60=a at*
 obtain⟨a1,d1⟩:=a
 simp only at l1 ⊢
 have l2:=aC.aV l1 3
 generalize d1.next 3=c at*
 obtain⟨c1,d2⟩:=c
 simp only at l2 ⊢
 split
 · exact aC.aV (aC.aV l2 n) n
 · split
   · exact aC.aV (aC.kF (aC.aV l2 n) _) 9
   · exact aC.aV (aC.kF (aC.aV l2 n) _) 40
abbrev blH(m:aT)(p1 p2:Bool)(tags starts:List Int)(s:BSt):aj:=[s.d.obj,.box (af m),.box [.nil],.arr 1 p1 0 (ints tags),.arr 1 p2 0 (ints starts),.box [.t (.sl (s.b.worlds.map World.e))]]
theorem JX{m:aT}(hm:m.ok)(n:Int)(n1:1≤n)(n2:n≤12)(tags starts:List Int)(s:BSt)(hd:s.d.dU)(hb:s.b.sz)(ht:0≤s.t)(ht2:s.t≤1000000)(k:Nat)(hk:k≤100)(p1 p2:Bool):
 fJ true [1,5,6,7,11,12,13,14,15,16,17] 6 (exS aN K.bz ⟨[.bp 0 0,.und,.bp 1 0,.bp 2 0,I n,.und,.und,.und,.bp 5 0,I s.t,I (k+1),.und,.und,.und,.und,.und,.und,.und],blH m p1 p2 tags starts s⟩)=
 some ⟨[.bp 0 0,.und,.bp 1 0,.bp 2 0,I n,.und,.und,.und,.bp 5 0,I (aC.kh m n s).t,I k,.und,.und,.und,.und,.und,.und,.und],blH m p1 p2 tags starts (aC.kh m n s)⟩:=by
 obtain⟨b,t,d⟩:=s
 simp only at hd hb ht ht2
 unfold aC.kh
 simp only
 have np:=hm.np
 have h1:=fR d 60 (by omega) hd
 have l1:=aC.aV hd 60
 have a0:=d.dD 60
 have a9:=d.dE (n:=60) (by omega)
 generalize d.next 60=a at*
 obtain⟨x1,d1⟩:=a
 simp only at h1 l1 a0 a9 ⊢
 have h2:=fR d1 3 (by omega) l1
 have l2:=aC.aV l1 3
 have c0:=d1.dD 3
 have c9:=d1.dE (n:=3) (by omega)
 generalize d1.next 3=c at*
 obtain⟨x2,d2⟩:=c
 simp only at h2 l2 c0 c9 ⊢
 have h3:=fR d2 n (by omega) l2
 have l3:=aC.aV l2 n
 have g0:=d2.dD n
 have g9:=d2.dE (n:=n) n1
 generalize d2.next n=g at*
 obtain⟨x3,d3⟩:=g
 simp only at h3 l3 g0 g9 ⊢
 by_cases e0:x2=0
 · simp only[if_pos e0]
   have h4:=fR d3 n (by omega) l3
   generalize d3.next n=g at*
   obtain⟨x4,d4⟩:=g
   simp only at h4 ⊢
   have ex:=G8 hm b hb x3 x4 (t+x1)
   generalize mX m b x3 x4 (t+x1)=r at*
   obtain⟨⟨ws'⟩,er⟩:=r
   obtain⟨ws⟩:=b
   simp only at ex ⊢
   subst e0
   by_cases e:er=0
   · simp (disch:=omega) only[go_sem,K.bz,↓reduceIte,blH,h1,h2,h3,h4,ex,e,Nat.reduceAdd,Nat.reduceSub]
   · simp (disch:=omega) only[go_sem,K.bz,↓reduceIte,blH,h1,h2,h3,h4,ex,e,Nat.reduceAdd,Nat.reduceSub]
 · simp only[if_neg e0]
   have h4:=I6 d3 m.places.length (by omega) l3
   have l4:=aC.kF l3 m.places.length
   have ln:=d3.tZ m.places.length
   generalize d3.lk m.places.length=q at*
   obtain⟨l,d4⟩:=q
   simp only at h4 l4 ln ⊢
   by_cases e1:x2=1
   · simp only[if_pos e1]
     have h5:=fR d4 9 (by omega) l4
     have f0:=d4.dD 9
     have f9:=d4.dE (n:=9) (by omega)
     generalize d4.next 9=g at*
     obtain⟨x5,d5⟩:=g
     simp only at h5 f0 f9 ⊢
     have ex:=JR hm b hb (3+2*x3) l (by omega) (t+x1) (t+x1+x5)
     generalize qT m b (3+2*x3) l (t+x1) (t+x1+x5)=r at*
     obtain⟨⟨ws'⟩,er⟩:=r
     obtain⟨ws⟩:=b
     simp only at ex ⊢
     subst e1
     by_cases e:er=0
     · simp (disch:=omega) only[go_sem,K.bz,↓reduceIte,blH,h1,h2,h3,h4,h5,ex,e,Nat.reduceAdd,Nat.reduceSub]
     · simp (disch:=omega) only[go_sem,K.bz,↓reduceIte,blH,h1,h2,h3,h4,h5,ex,e,Nat.reduceAdd,Nat.reduceSub]
   · simp only[if_neg e1]
     have h5:=fR d4 40 (by omega) l4
     have f0:=d4.dD 40
     have f9:=d4.dE (n:=40) (by omega)
     generalize d4.next 40=g at*
     obtain⟨x5,d5⟩:=g
     simp only at h5 f0 f9 ⊢
     have ex:=JS hm b hb (3+2*x3) l (by omega) (t+x1) (t+x1+50) x5
     generalize qU m b (3+2*x3) l (t+x1) (t+x1+50) x5=r at*
     obtain⟨⟨ws'⟩,er⟩:=r
     obtain⟨ws⟩:=b
     simp only at ex ⊢
     by_cases e:er=0
     · simp (disch:=omega) only[go_sem,K.bz,↓reduceIte,blH,h1,h2,h3,h4,h5,ex,e,e0,e1,Nat.reduceAdd,Nat.reduceSub]
     · simp (disch:=omega) only[go_sem,K.bz,↓reduceIte,blH,h1,h2,h3,h4,h5,ex,e,e0,e1,Nat.reduceAdd,Nat.reduceSub]
theorem CH{m:aT}(hm:m.ok){p t:Int}(p0:0≤p)(p1:p<m.places.length)(ht:inT t):(dh m p t).2=0∧(dh m p t).1.frm.length=m.places.length:=by
 unfold dh
 rw[if_neg (by omega),if_pos ht]
 refine⟨rfl,?_⟩
 exact kI hm t ht none (fun l h=>by cases h) (by simp) (sL (ve _) ht.1 (by have:=ht.2;omega))
theorem JY{m:aT}{p t:Int}(ht:inT t):inT (dh m p t).1.time:=by
 unfold dh
 split
 · unfold inT;simp
 · exact ht
theorem Rm{m:aT}(w:Wh)(l:List Int)(a b:Int)(hw:inT w.time):inT (yS m w l a b).1.time:=by
 unfold yS
 split
 · exact hw
 · rename_i h
   have h0:ka m w l a b=0:=by simpa using h
   obtain⟨v1,v2,v3,v4,v5,v6⟩:=mb h0
   split
   · exact hw
   · split
     · exact v5
     · exact hw
theorem Rn{m:aT}(w:Wh)(l:List Int)(a b bl:Int)(hw:inT w.time):inT (zy m w l a b bl).1.time:=by
 unfold zy
 split
 · exact hw
 · rename_i h
   have h0:ka m w l a b=0:=by simpa using h
   obtain⟨v1,v2,v3,v4,v5,v6⟩:=mb h0
   split
   · exact hw
   · split
     · exact hw
     · split
       · exact hw
       · exact v5
theorem MA{a b:Wh}(ha:inT a.time)(hb:inT b.time):inT (iR a b).1.time:=by
 unfold iR
 split
 · unfold inT at *;simp only;omega
 · unfold inT;simp
theorem CI{w:Wh}{t:Int}(h:inT w.time):inT (lT w t).1.time:=by
 unfold lT
 split
 · exact h
 · unfold inT at *;simp only;omega
theorem FU(a b:List Wh)(ha:∀w∈a,inT w.time)(hb:∀w∈b,inT w.time):∀p,p≤a.length→p≤b.length→∀w∈iU a b p,inT w.time
 | 0,_,_,w,hw=>ha w hw
 | p+1,h1,h2,w,hw=>by
   simp only[iU]at hw
   rcases List.mem_or_eq_of_mem_set hw with hw | rfl
   · exact FU a b ha hb p (by omega) (by omega) w hw
   · exact MA (ha _ (aa (by omega))) (hb _ (aa (by omega)))
theorem MB{m:aT}(hm:m.ok)(w:Wh)(l:List Int)(a b:Int)(hw:w.frm.length=m.places.length):(yS m w l a b).1.frm.length=m.places.length:=by
 unfold yS
 split
 · exact hw
 · rename_i h
   have h0:ka m w l a b=0:=by simpa using h
   obtain⟨v1,v2,v3,v4,v5,v6⟩:=mb h0
   obtain⟨w1,w2,w3,w4⟩:=bZ v1
   have hb:bnd w.frm:=fun x hx=>kH (w3 x hx)
   split
   · exact hw
   · split
     · refine kI hm a v4 none (fun l h=>by cases h) (pC _ _ _ _ _) (AF hb _ _ ?_ _ (Nat.le_refl _))
       intro p hp
       obtain⟨j,hj⟩:=List.mem_iff_getElem?.1 hp
       have hjl:=(List.getElem?_eq_some_iff.1 hj).1
       obtain⟨q1,q2, -⟩:=pB v3 hjl
       rw[bB hj]at q1 q2
       omega
     · exact hw
theorem MC{m:aT}(hm:m.ok)(w:Wh)(l:List Int)(a b bl:Int)(hw:w.frm.length=m.places.length):(zy m w l a b bl).1.frm.length=m.places.length:=by
 unfold zy
 split
 · exact hw
 · rename_i h
   have h0:ka m w l a b=0:=by simpa using h
   obtain⟨v1,v2,v3,v4,v5,v6⟩:=mb h0
   obtain⟨w1,w2,w3,w4⟩:=bZ v1
   have hb:bnd w.frm:=fun x hx=>kH (w3 x hx)
   split
   · exact hw
   · split
     · exact hw
     · split
       · exact hw
       · rename_i h1 h2 h3
         have hlen:=AE v3
         have np:=hm.np
         have h1:inT bl:=by simpa using h1
         unfold inT at v4 v5 w2 h1
         have t1:inT (b-bl):=by unfold inT;omega
         have hi:∀s,some l=some s→s≠[]∧s.length≤64:=by
          intro s hs;cases hs;exact⟨v2,by omega⟩
         have ln:=ud w.frm l l.length
         have lb:=AG hb l l.length
         exact kI hm b v5 none (fun l h=>by cases h) (kI hm _ t1 _ hi (by omega) lb) (zx hm _ t1 _ hi (by omega) lb)
theorem JZ{m:aT}{N:Nat}{tag:Int}{x:World}{w:Wh}(hx:WOk m N x)(hw:w.frm.length=m.places.length)(hw2:inT w.time):WOk m N (Ek tag x w):=by
 obtain⟨t1,t2,t3,t4⟩:=hx
 refine⟨t1,by simpa [Ek]using t2,fun y hy=>?_,fun y hy=>?_⟩
 · simp only[Ek]at hy
   rcases List.mem_or_eq_of_mem_set hy with hy | rfl
   · exact t3 y hy
   · exact hw
 · simp only[Ek]at hy
   rcases List.mem_or_eq_of_mem_set hy with hy | rfl
   · exact t4 y hy
   · exact hw2
theorem Eo{m:aT}(hm:m.ok){N:Nat}{b:Bel}(hb:BOk m N b)(tag:Int)(l:List Int)(a c:Int):BOk m N (if(qT m b tag l a c).2=0 then(qT m b tag l a c).1 else b):=by
 split
 · rename_i h0
   unfold qT at h0 ⊢
   by_cases e0:mV m b tag=0
   · simp only[e0,ne_eq,not_true_eq_false,if_false]at h0 ⊢
     obtain⟨_,bb⟩:=Em e0
     cases hf:(List.range b.worlds.length).find? (CD m tag l a c b.worlds)with
     | some i=>simp only[hf];exact hb
     | none=>
       simp only[hf]at h0 ⊢
       split at h0
       · simp at h0
       · rename_i hl
         rw[if_neg hl]
         have ln:=ur m tag l a c b.worlds b.worlds.length
         refine⟨by simp only;omega,by have:=hb.w2;simp only;omega,hb.n1,hb.n2,?_⟩
         have key:∀j,j≤b.worlds.length→∀x∈mW m tag l a c b.worlds j,WOk m N x:=by
          intro j
          induction j with
          | zero=>intro _ x hx;simp[mW]at hx
          | succ j ih=>
            intro hj x hx
            have wj:=hb.ws _ (aa (l:=b.worlds) (j:=j) (by omega))
            obtain⟨b1,b2⟩:=bb j (by omega)
            simp only[mW,CB]at hx
            split at hx
            · exact ih (by omega) x hx
            · rcases List.mem_append.1 hx with hx | hx
              · exact ih (by omega) x hx
              · rw[List.mem_singleton.1 hx]
                split
                · exact JZ wj (MB hm _ l a c (wj.fr _ (aa (by omega)))) (Rm _ l a c (wj.ti _ (aa (by omega))))
                · exact wj
         exact key _ (Nat.le_refl _)
   · rw[if_pos e0]at h0 ⊢
     exact hb
 · exact hb
theorem Ep{m:aT}(hm:m.ok){N:Nat}{b:Bel}(hb:BOk m N b)(tag:Int)(l:List Int)(a c bl:Int):BOk m N (if(qU m b tag l a c bl).2=0 then(qU m b tag l a c bl).1 else b):=by
 split
 · rename_i h0
   unfold qU at h0 ⊢
   by_cases e0:mV m b tag=0
   · simp only[e0,ne_eq,not_true_eq_false,if_false]at h0 ⊢
     obtain⟨_,bb⟩:=Em e0
     cases hf:(List.range b.worlds.length).find? (CF m tag l a c bl b.worlds)with
     | some i=>simp only[hf];exact hb
     | none=>
       simp only[hf]
       have ln:=uu m tag l a c bl b.worlds b.worlds.length
       refine⟨by have:=hb.w1;simp only;omega,by have:=hb.w2;simp only;omega,hb.n1,hb.n2,?_⟩
       have key:∀j,j≤b.worlds.length→∀x∈oL m tag l a c bl b.worlds j,WOk m N x:=by
        intro j
        induction j with
        | zero=>intro _ x hx;simp[oL]at hx
        | succ j ih=>
          intro hj x hx
          have wj:=hb.ws _ (aa (l:=b.worlds) (j:=j) (by omega))
          obtain⟨b1,b2⟩:=bb j (by omega)
          simp only[oL,El]at hx
          rcases List.mem_append.1 hx with hx | hx
          · exact ih (by omega) x hx
          · rw[List.mem_singleton.1 hx]
            split
            · exact JZ wj (MC hm _ l a c bl (wj.fr _ (aa (by omega)))) (Rn _ l a c bl (wj.ti _ (aa (by omega))))
            · exact wj
       exact key _ (Nat.le_refl _)
   · rw[if_pos e0]at h0 ⊢
     exact hb
 · exact hb
theorem J0{m:aT}{a b:Wh}(ha:a.frm.length=m.places.length)(hb:b.frm.length=m.places.length):(iR a b).1.frm.length=m.places.length:=by
 unfold iR
 rw[if_pos (by omega)]
 simp only[kU];exact ha
theorem FV{m:aT}(a b:List Wh)(ha:∀w∈a,w.frm.length=m.places.length)(hb:∀w∈b,w.frm.length=m.places.length):∀p,p≤a.length→p≤b.length→∀w∈iU a b p,w.frm.length=m.places.length
 | 0,_,_,w,hw=>ha w hw
 | p+1,h1,h2,w,hw=>by
   simp only[iU]at hw
   rcases List.mem_or_eq_of_mem_set hw with hw | rfl
   · exact FV a b ha hb p (by omega) (by omega) w hw
   · exact J0 (ha _ (aa (by omega))) (hb _ (aa (by omega)))
theorem G9{m:aT}{N:Nat}{out:List World}{x:World}(ho:∀y∈out,WOk m N y)(hx:WOk m N x):∀y∈gK out x,WOk m N y:=by
 intro y hy
 unfold gK at hy
 split at hy
 · rename_i h
   rcases List.mem_or_eq_of_mem_set hy with hy | rfl
   · exact ho y hy
   · obtain⟨s1,s2,s3,s4⟩:=ho _ (aa h.1)
     refine⟨hx.tg,?_,FV _ _ s3 hx.fr _ (Nat.min_le_left _ _) (Nat.min_le_right _ _),FU _ _ s4 hx.ti _ (Nat.min_le_left _ _) (Nat.min_le_right _ _)⟩
     show(iU _ _ _).length=_
     rw[gJ];exact s2
 · rcases List.mem_append.1 hy with hy | hy
   · rcases List.mem_append.1 hy with hy | hy
     · exact ho y (List.mem_of_mem_take hy)
     · rw[List.mem_singleton.1 hy];exact hx
   · exact ho y (List.mem_of_mem_drop hy)
theorem zM{m:aT}{N:Nat}{l:List World}(hl:∀x∈l,WOk m N x):∀j,j≤l.length→∀y∈oM l j,WOk m N y
 | 0,_,y,hy=>by simp[oM]at hy
 | j+1,h,y,hy=>G9 (zM hl j (by omega)) (hl _ (aa (by omega))) y hy
theorem Ha{m:aT}{N:Nat}{i j:Nat}{t:Int}{x:World}(h:WOk m N x)(hi:i<N)(hj:j<N):WOk m N (sW i j t x):=by
 obtain⟨s1,s2,s3,s4⟩:=h
 refine⟨by simpa [sW,G6]using s1,by simpa [sW]using s2,fun w hw=>?_,fun w hw=>?_⟩
 · simp only[sW]at hw
   rcases List.mem_or_eq_of_mem_set hw with hw | rfl
   · rcases List.mem_or_eq_of_mem_set hw with hw | rfl
     · exact s3 w hw
     · rw[rE];exact s3 _ (aa (by omega))
   · rw[rE];exact s3 _ (aa (by omega))
 · simp only[sW]at hw
   rcases List.mem_or_eq_of_mem_set hw with hw | rfl
   · rcases List.mem_or_eq_of_mem_set hw with hw | rfl
     · exact s4 w hw
     · exact CI (s4 _ (aa (by omega)))
   · exact CI (s4 _ (aa (by omega)))
theorem sX{m:aT}{N:Nat}{ws:List World}(h:∀x∈ws,WOk m N x){i j:Nat}{t:Int}(hi:i<N)(hj:j<N):∀k,k≤ws.length→∀x∈iu i j t ws k,WOk m N x
 | 0,_,x,hx=>h x hx
 | k+1,hk,x,hx=>by
   simp only[iu,yr]at hx
   split at hx
   · rcases List.mem_append.1 hx with hx | hx
     · exact sX h hi hj k (by omega) x hx
     · rw[List.mem_singleton.1 hx];exact Ha (h _ (aa (by omega))) hi hj
   · exact sX h hi hj k (by omega) x hx
theorem CJ{m:aT}{N:Nat}{b:Bel}(hb:BOk m N b)(i j t:Int):BOk m N (if(mX m b i j t).2=0 then(mX m b i j t).1 else b):=by
 split
 · rename_i h0
   unfold mX at h0 ⊢
   split at h0
   · simp at h0
   · rename_i c1
     rw[if_neg c1]
     split at h0
     · simp at h0
     · rename_i c2
       rw[if_neg c2]
       split at h0
       · simp at h0
       · rename_i c3
         rw[if_neg c3]
         split at h0
         · simp at h0
         · rename_i c4
           rw[if_neg c4]
           have t0:=(hb.ws _ (aa (l:=b.worlds) (j:=0) (by have:=hb.w1;omega))).tg
           have ln:=rD i.toNat j.toNat t b.worlds b.worlds.length
           have w1:=hb.w1
           refine⟨?_,by simp only;omega,hb.n1,hb.n2,?_⟩
           · simp only[m7]
             cases hn:(iu i.toNat j.toNat t b.worlds b.worlds.length).length with
             | zero=>omega
             | succ n=>exact(uw _ _).2.2
           · exact zM (sX hb.ws (by omega) (by omega) _ (Nat.le_refl _)) _ (Nat.le_refl _)
 · exact hb
theorem CK{m:aT}(hm:m.ok){N:Nat}{n:Int}{s:BSt}(hb:BOk m N s.b):BOk m N (aC.kh m n s).b:=by
 unfold aC.kh
 simp only
 split
 · exact CJ hb _ _ _
 · split
   · exact Eo hm hb _ _ _ _
   · exact Ep hm hb _ _ _ _ _
theorem CL{m:aT}{n:Int}{s:BSt}:s.t≤(aC.kh m n s).t∧(aC.kh m n s).t≤s.t+60:=by
 have h1:=s.d.dD 60
 have h2:=s.d.dE (n:=60) (by omega)
 unfold aC.kh
 simp only
 split
 · simp only;omega
 · split<;>(simp only;omega)
theorem yv{m:aT}(hm:m.ok){N:Nat}{n:Int}{s:BSt}(hb:BOk m N s.b)(hd:s.d.dU)(ht:s.t=100):∀k,BOk m N (aC.vn m n s k).b∧(aC.vn m n s k).d.dU∧100≤(aC.vn m n s k).t∧(aC.vn m n s k).t≤100+60*k
 | 0=>⟨hb,hd,by simp[aC.vn,ht],by simp[aC.vn,ht]⟩
 | k+1=>by
   obtain⟨h1,h2,h3,h4⟩:=yv hm hb hd ht k
   have ht:=CL (m:=m) (n:=n) (s:=aC.vn m n s k)
   exact⟨CK hm h1,AN h2,by simp only[aC.vn];omega,by simp only[aC.vn];omega⟩
theorem wA{n:Nat}(h:n≤3):eC (pU n)=true:=by
 match n,h with
 | 0,_=>decide
 | 1,_=>decide
 | 2,_=>decide
 | 3,_=>decide
theorem qW(d:aC){n:Int}(hn:1≤n):∀k,∀x∈(d.ly n k).1,0≤x∧x<n
 | 0,x,hx=>by simp[aC.ly]at hx
 | k+1,x,hx=>by
   simp only[aC.ly,List.mem_append,List.mem_singleton]at hx
   rcases hx with hx | rfl
   · exact qW d hn k x hx
   · exact⟨aC.dD _ _,aC.dE _ hn⟩
theorem yx(d:aC):1≤d.oh∧d.oh≤3:=by
 have h1:=d.dD 3
 have h2:=d.dE (n:=3) (by omega)
 unfold aC.oh;omega
theorem AO{m:aT}(hm:m.ok)(h1:1≤m.places.length)(d:aC):
 (rC m (pU d.oh) (d.lV m).1 ((d.lV m).2.next 100).1)=(⟨[⟨pU d.oh,gu m (d.lV m).1 ((d.lV m).2.next 100).1 (pU d.oh).length⟩]⟩,0):=by
 have pb:=yx d
 have tl:=kg d.oh
 have sl:(d.lV m).1.length=d.oh:=aC.jR _ _ _
 have t0:=(d.lV m).2.dD 100
 have t9:=(d.lV m).2.dE (n:=100) (by omega)
 have np:=hm.np
 unfold rC
 rw[if_pos (by omega),if_pos (wA (by omega))]
 have:(List.range (pU d.oh).length).find? (fun i=> !decide ((dh m (nth (d.lV m).1 i) ((d.lV m).2.next 100).1).2=0))=none:=by
  rw[List.find?_eq_none]
  intro i hi
  have hi:i<(d.lV m).1.length:=by rw[sl,←tl];exact List.mem_range.1 hi
  have:=qW (d.next 3).2 (n:=m.places.length) (by omega) d.oh _ (aa hi)
  have:=(CH hm this.1 this.2 (t:=((d.lV m).2.next 100).1) ⟨by omega,by omega⟩).1
  have e:(dh m (nth (d.lV m).1 i) ((d.lV m).2.next 100).1).2=0:=this
  simp[e]
 rw[this]
theorem CM{m:aT}(hm:m.ok)(h1:1≤m.places.length)(d:aC):BOk m d.oh (d.HW m).b:=by
 have pb:=yx d
 have tl:=kg d.oh
 have sl:(d.lV m).1.length=d.oh:=aC.jR _ _ _
 have t0:=(d.lV m).2.dD 100
 have t9:=(d.lV m).2.dE (n:=100) (by omega)
 have np:=hm.np
 unfold aC.HW
 rw[AO hm h1]
 refine⟨by simp,by simp,by omega,by omega,fun x hx=>?_⟩
 rw[List.mem_singleton.1 hx]
 refine⟨tl,by simp[tl],fun w hw=>?_,fun w hw=>by
  simp only[gu,List.mem_map,List.mem_range]at hw
  obtain⟨i,hi,rfl⟩:=hw
  exact JY ⟨by omega,by omega⟩⟩
 simp only[gu,List.mem_map,List.mem_range]at hw
 obtain⟨i,hi,rfl⟩:=hw
 have hi:i<(d.lV m).1.length:=by rw[sl,←tl];exact hi
 have:=qW (d.next 3).2 (n:=m.places.length) (by omega) d.oh _ (aa hi)
 exact(CH hm this.1 this.2 ⟨by omega,by omega⟩).2
theorem J1{m:aT}(hm:m.ok)(h1:1≤m.places.length){d:aC}(hd:d.dU):BOk m d.oh (d.qV m).1∧(d.qV m).2.dU:=by
 have l0:(d.HW m).d.dU:=aC.aV (aC.aV (aC.nC (aC.aV hd 3) _ _) _) _
 obtain⟨h1,h2, -⟩:=yv hm (CM hm h1 d) l0 rfl (n:=d.oh) (d.JW m)
 exact⟨h1,h2⟩
theorem J2{m:aT}(hm:m.ok)(d:aC)(hd:d.dU)(n:Nat)(hn:n≤12)(a b c e f g h i j k:D):
 exS aN K.mA ⟨[.bp 0 0,a,.bp 1 0,.bp 2 0,I n,.ref 3 0 0,.ref 4 0 0,I 0,b,c,e,f,g,h,i,j,k,.und],[d.obj,.box (af m),.box [.nil],.arr 1 false 0 [],.arr 1 false 0 []]⟩=
 some (.exit 0,⟨[.bp 0 0,.und,.bp 1 0,.bp 2 0,I n,.ref 3 0 n,.ref 4 0 n,I n,.und,.und,.und,.und,.und,.und,.und,.und,.und,.und],[(d.ly m.places.length n).2.obj,.box (af m),.box [.nil],.arr 1 false 0 (ints (pU n)),.arr 1 false 0 (ints (d.ly m.places.length n).1)]⟩):=by
 refine b5 (fun k=>⟨[.bp 0 0,.und,.bp 1 0,.bp 2 0,I n,.ref 3 0 k,.ref 4 0 k,I k,.und,.und,.und,.und,.und,.und,.und,.und,.und,.und],[(d.ly m.places.length k).2.obj,.box (af m),.box [.nil],.arr 1 false 0 (ints (pU k)),.arr 1 false 0 (ints (d.ly m.places.length k).1)]⟩) n rfl ?_ ?_ (by simp)
 · intro j hj
   have np:=hm.np
   have tl:=kg j
   have sl:=d.jR m.places.length j
   have lt:=aC.nC hd m.places.length j
   simp only[pU,aC.ly]
   generalize pU j=ts at*
   generalize d.ly m.places.length j=s at*
   obtain⟨ss,d1⟩:=s
   simp only at sl lt ⊢
   have h1:=fR d1 m.places.length (by omega) lt
   generalize d1.next m.places.length=r at*
   obtain⟨x,d2⟩:=r
   simp only at h1 ⊢
   simp (disch:=omega) only[go_sem,K.iZ,↓reduceIte,ints,h1,Nat.reduceAdd,Nat.reduceSub]
 · have tl:=kg n
   have sl:=d.jR m.places.length n
   simp (disch:=omega) only[go_sem,K.iZ,↓reduceIte,ints,Nat.reduceAdd,Nat.reduceSub]
theorem J3{m:aT}(hm:m.ok){N:Nat}(n:Int)(n1:1≤n)(n2:n≤12)(tags starts:List Int)(s:BSt)(hd:s.d.dU)(hb:BOk m N s.b)(ht:s.t=100)(p1 p2:Bool)(kk:Nat)(hK:kk≤100):
 mz true [1,5,6,7,11,12,13,14,15,16,17] (exS aN K.bz) ⟨[.bp 0 0,.und,.bp 1 0,.bp 2 0,I n,.und,.und,.und,.bp 5 0,I s.t,I kk,.und,.und,.und,.und,.und,.und,.und],blH m p1 p2 tags starts s⟩=
 some (.exit 2,⟨[.bp 0 0,.und,.bp 1 0,.bp 2 0,I n,.und,.und,.und,.bp 5 0,I (aC.vn m n s kk).t,I 0,.und,.und,.und,.und,.und,.und,.und],blH m p1 p2 tags starts (aC.vn m n s kk)⟩):=by
 have key:=w9 (gc:=true) (dead:=[1,5,6,7,11,12,13,14,15,16,17]) (body:=exS aN K.bz)
  (fun k=>⟨[.bp 0 0,.und,.bp 1 0,.bp 2 0,I n,.und,.und,.und,.bp 5 0,I (aC.vn m n s k).t,I ((kk-k:Nat):Int),.und,.und,.und,.und,.und,.und,.und],blH m p1 p2 tags starts (aC.vn m n s k)⟩)
  (p:=(.exit 2,⟨[.bp 0 0,.und,.bp 1 0,.bp 2 0,I n,.und,.und,.und,.bp 5 0,I (aC.vn m n s kk).t,I 0,.und,.und,.und,.und,.und,.und,.und],blH m p1 p2 tags starts (aC.vn m n s kk)⟩)) kk ?_ ?_
 · exact key
 · intro k hk
   obtain⟨g1,g2,g3,g4⟩:=yv hm (n:=n) hb hd ht k
   have:=JX hm n n1 n2 tags starts (aC.vn m n s k) g2 (g1.sz hm) (by omega) (by omega) (kk-(k+1)) (by omega) p1 p2
   rw[show(((kk-(k+1):Nat):Int)+1)=((kk-k:Nat):Int)by omega]at this
   exact this
 · refine c7 ?_ (by simp)
   simp only[Nat.sub_self]
   simp (disch:=omega) only[go_sem,K.bz,↓reduceIte,blH,Nat.reduceAdd,Nat.reduceSub]
theorem J4{m:aT}(hm:m.ok)(h1:1≤m.places.length)(d:aC)(hd:d.dU):aN 0 N.bR [.bp 0 0,.t m.e] [d.obj]=some (.t (d.qV m).1.e,[(d.qV m).2.obj]):=by
 refine ax K.j6 rfl ?_
 have np:=hm.np
 have pb:=yx d
 have eP:(d.oh:Int)=1+(d.next 3).1:=by have:=d.dD 3;unfold aC.oh;omega
 have g0:=CM hm h1 d
 have e0:=AO hm h1 d
 have a1:=fR d 3 (by omega) hd
 have l1:=aC.aV hd 3
 have q1:=fun a b c e f g h i j k=>J2 hm (d.next 3).2 l1 d.oh (by omega) a b c e f g h i j k
 have eS:(d.next 3).2.ly m.places.length d.oh=d.lV m:=rfl
 rw[eS]at q1
 have lS:(d.lV m).2.dU:=aC.nC l1 _ _
 have a2:=fR (d.lV m).2 100 (by omega) lS
 have l2:=aC.aV lS 100
 have a3:=fR ((d.lV m).2.next 100).2 5 (by omega) l2
 have l3:=aC.aV l2 5
 have k0:=((d.lV m).2.next 100).2.dD 5
 have k9:=((d.lV m).2.next 100).2.dE (n:=5) (by omega)
 have eK:(d.JW m:Int)=(((d.lV m).2.next 100).2.next 5).1:=by unfold aC.JW;omega
 have st:=Ej hm (pU d.oh) (d.lV m).1 (by rw[kg];omega) ((d.lV m).2.next 100).1
 have tl:=kg d.oh
 have sl:(d.lV m).1.length=d.oh:=aC.jR _ _ _
 rw[e0]at st
 have b0:d.HW m=⟨⟨[⟨pU d.oh,gu m (d.lV m).1 ((d.lV m).2.next 100).1 (pU d.oh).length⟩]⟩,100,(((d.lV m).2.next 100).2.next 5).2⟩:=by unfold aC.HW;rw[e0]
 have q2:=fun p1 p2=>J3 hm d.oh (by omega) (by omega) (pU d.oh) (d.lV m).1 (d.HW m) (by rw[b0];exact l3) g0 rfl p1 p2 (d.JW m) (by omega)
 have q2:=fun p1 p2 a b c e f g h i j k l=>uZ (vs:=[.bp 0 0,a,.bp 1 0,.bp 2 0,I d.oh,b,c,e,.bp 5 0,I 100,I (d.JW m),f,g,h,i,j,k,l]) (q2 p1 p2)
 have eF:aC.vn m d.oh (d.HW m) (d.JW m)=d.XD m:=rfl
 rw[eF]at q2
 unfold aC.qV
 rw[b0]at q2
 generalize d.XD m=F at*
 generalize (pU d.oh)=tags at*
 generalize gu m (d.lV m).1 ((d.lV m).2.next 100).1 tags.length=sw at*
 generalize d.JW m=kk at*
 generalize (((d.lV m).2.next 100).2.next 5)=z3 at*
 generalize ((d.lV m).2.next 100)=z2 at*
 generalize d.lV m=z1 at*
 generalize d.next 3=z0 at*
 generalize d.oh=n at*
 obtain⟨x3,d3⟩:=z3
 obtain⟨x2,d2⟩:=z2
 obtain⟨ss,d1⟩:=z1
 obtain⟨x0,d0⟩:=z0
 obtain⟨⟨wf⟩,tf,df⟩:=F
 simp only[List.map_cons,List.map_nil,blH]at*
 have q2:∀p1 p2 a b c e f g h i j k l,exS aN K.mB _=_:=q2
 simp (disch:=omega) only[go_sem,K.bR,↓reduceIte,ints,a1,eP.symm,q1,a2,a3,st,eK.symm,tl,sl,q2,Nat.reduceAdd,Nat.reduceSub]
def aC.spread(d:aC)(m:aT)(fl:List Spn):Wh×aC:=
 let p:=d.next m.places.length
 let t:=p.2.next 200
 let s:=Vk m fl [p.1] t.1
 let o:=t.2.one 2
 if o.1=true then
  let f:=o.2.ZP m
  let a:=f.2.next 100
  let r:=QG m fl m f.1 s.1 (s.1.time+a.1)
  if r.2=0 then(r.1,a.2)else(s.1,a.2)
 else(s.1,o.2)
structure Mch where
 kind:Int
 num:Int
 pl:List Int
instance : Dat Mch := ⟨⟨0, 0, []⟩⟩
abbrev Mch.e(x:Mch):T:= .agg [tI x.kind,tI x.num,tL x.pl]
theorem Hb{n:Nat}{p:Nat→Bool}{x:Int}:x∈cq n p↔∃k:Nat,x=k∧k<n∧p k=true:=by
 unfold cq
 simp only[List.mem_map,List.mem_filter,List.mem_range]
 constructor
 · rintro ⟨k,⟨h1,h2⟩,rfl⟩;exact⟨k,rfl,h1,h2⟩
 · rintro ⟨k,rfl,h1,h2⟩;exact⟨k,⟨h1,h2⟩,rfl⟩
theorem rZ{n:Nat}{p:Nat→Bool}{k:Nat}:(k:Int)∈cq n p↔k<n∧p k=true:=by
 rw[Hb]
 constructor
 · rintro ⟨j,h,h1,h2⟩
   obtain rfl:k=j:=by omega
   exact⟨h1,h2⟩
 · rintro ⟨h1,h2⟩;exact⟨k,rfl,h1,h2⟩
theorem AP(l:List World)(hl:l.length≤4294967296)(f:Nat)(bs:List (List T))(p:World→Bool)(h:∀x,x∈l→aN 0 f (.t x.e::eV bs.length) (aQ bs)=some (B (p x),aQ bs)):
 aN 0 N.aD [.t (.sl (l.map World.e)),.fn f (eV bs.length)] (aQ bs)=
 some (I (match (List.range l.length).find? (fun j=>p (nth l j))with | some j=>(j:Int) | none=> -1),aQ bs):=by
 refine ax K.cy rfl ?_
 have loop:∀a b:D,exS aN K.dY ⟨[.t (.sl (l.map World.e)),.fn f (eV bs.length),a,b,I l.length,I 0],aQ bs⟩=
  some (match (List.range l.length).find? (fun j=>p (nth l j))with
   | some j=>(.ret,⟨[.t (.sl (l.map World.e)),.fn f (eV bs.length),I j,I j,I l.length,I j],aQ bs⟩)
   | none=>(.exit 0,⟨[.t (.sl (l.map World.e)),.fn f (eV bs.length),.und,.und,I l.length,I l.length],aQ bs⟩)):=by
  intro a b
  refine b7 (fun j=>⟨[.t (.sl (l.map World.e)),.fn f (eV bs.length),.und,.und,I l.length,I j],aQ bs⟩) l.length (fun j=>p (nth l j)) _ _ rfl ?_ ?_ ?_ (by simp)
  · intro j hj hp
    have hc:=mi (h _ (aa hj)) rfl
    simp (disch:=omega) only[go_sem,K.bE,↓reduceIte,hc,hp]
  · intro j hj hp
    have hc:=mi (h _ (aa hj)) rfl
    simp (disch:=omega) only[go_sem,K.bE,↓reduceIte,hp,hc]
    simp
  · simp (disch:=omega) only[go_sem,K.bE,↓reduceIte]
 simp (disch:=omega) only[go_sem,K.aD,↓reduceIte,loop]
 cases hf:(List.range l.length).find? (fun j=>p (nth l j))with
 | some j=>simp (disch:=omega) only[go_sem,↓reduceIte]
 | none=>simp (disch:=omega) only[go_sem,↓reduceIte]
theorem FW{α:Type} [Dat α]{l:List α}{p:α→Bool}:((List.range l.length).find? fun j=>p (nth l j)).isSome=l.any p:=by
 rw[List.isSome_find?,Bool.eq_iff_iff,List.any_eq_true,List.any_eq_true]
 constructor
 · rintro ⟨j,hj,h⟩
   exact⟨_,aa (List.mem_range.1 hj),h⟩
 · rintro ⟨x,hx,h⟩
   obtain⟨j,hj⟩:=List.mem_iff_getElem?.1 hx
   exact⟨j,List.mem_range.2 (List.getElem?_eq_some_iff.1 hj).1,by rw[bB hj];exact h⟩
theorem wL(l:List World)(hl:l.length≤4294967296)(f:Nat)(bs:List (List T))(p:World→Bool)(h:∀x,x∈l→aN 0 f (.t x.e::eV bs.length) (aQ bs)=some (B (p x),aQ bs)):
 aN 0 N.av [.t (.sl (l.map World.e)),.fn f (eV bs.length)] (aQ bs)=some (B (l.any p),aQ bs):=by
 refine ax K.bY rfl ?_
 have h:=AP l hl f bs p h
 have hc:=vd aN bs f _ 0 (.sl (l.map World.e)) h rfl
 have e:=FW (l:=l) (p:=p)
 cases hf:(List.range l.length).find? (fun j=>p (nth l j))with
 | some j=>rw[hf]at e hc;simp (disch:=omega) only[go_sem,K.av,↓reduceIte,←e,hc]
 | none=>rw[hf]at e hc;simp (disch:=omega) only[go_sem,K.av,↓reduceIte,←e,hc,Option.isSome_none]
theorem J5(b:Bel)(person t:Int):(Cz b person t).length≤64:=gR _ _
end Go.Ev
namespace Go.Ev
open Go
variable [Lib] [cn] [bS] [iE] [iv] [lU] [gV] [gW] [kt] [iJ] [hX] [fT]
theorem AQ(l:List Wh)(hl:l.length≤4294967296)(f:Nat)(bs:List (List T))(p:Wh→Bool)(h:∀x,x∈l→aN 0 f (.t x.e::eV bs.length) (aQ bs)=some (B (p x),aQ bs)):
 aN 0 N.au [.t (.sl (l.map Wh.e)),.fn f (eV bs.length)] (aQ bs)=
 some (I (match (List.range l.length).find? (fun j=>p (nth l j))with | some j=>(j:Int) | none=> -1),aQ bs):=by
 refine ax K.bC rfl ?_
 have loop:∀a b:D,exS aN K.cg ⟨[.t (.sl (l.map Wh.e)),.fn f (eV bs.length),a,b,I l.length,I 0],aQ bs⟩=
  some (match (List.range l.length).find? (fun j=>p (nth l j))with
   | some j=>(.ret,⟨[.t (.sl (l.map Wh.e)),.fn f (eV bs.length),I j,I j,I l.length,I j],aQ bs⟩)
   | none=>(.exit 0,⟨[.t (.sl (l.map Wh.e)),.fn f (eV bs.length),.und,.und,I l.length,I l.length],aQ bs⟩)):=by
  intro a b
  refine b7 (fun j=>⟨[.t (.sl (l.map Wh.e)),.fn f (eV bs.length),.und,.und,I l.length,I j],aQ bs⟩) l.length (fun j=>p (nth l j)) _ _ rfl ?_ ?_ ?_ (by simp)
  · intro j hj hp
    have hc:=mi (h _ (aa hj)) rfl
    simp (disch:=omega) only[go_sem,K.aZ,↓reduceIte,hc,hp]
  · intro j hj hp
    have hc:=mi (h _ (aa hj)) rfl
    simp (disch:=omega) only[go_sem,K.aZ,↓reduceIte,hp,hc]
    simp
  · simp (disch:=omega) only[go_sem,K.aZ,↓reduceIte]
 simp (disch:=omega) only[go_sem,K.au,↓reduceIte,loop]
 cases hf:(List.range l.length).find? (fun j=>p (nth l j))with
 | some j=>simp (disch:=omega) only[go_sem,↓reduceIte]
 | none=>simp (disch:=omega) only[go_sem,↓reduceIte]
theorem p8(l:List Wh)(hl:l.length≤4294967296)(f:Nat)(bs:List (List T))(p:Wh→Bool)(h:∀x,x∈l→aN 0 f (.t x.e::eV bs.length) (aQ bs)=some (B (p x),aQ bs)):
 aN 0 N.ae [.t (.sl (l.map Wh.e)),.fn f (eV bs.length)] (aQ bs)=some (B (l.any p),aQ bs):=by
 refine ax K.bA rfl ?_
 have h:=AQ l hl f bs p h
 have hc:=vd aN bs f _ 0 (.sl (l.map Wh.e)) h rfl
 have e:=FW (l:=l) (p:=p)
 cases hf:(List.range l.length).find? (fun j=>p (nth l j))with
 | some j=>rw[hf]at e hc;simp (disch:=omega) only[go_sem,K.ae,↓reduceIte,←e,hc]
 | none=>rw[hf]at e hc;simp (disch:=omega) only[go_sem,K.ae,↓reduceIte,←e,hc,Option.isSome_none]
theorem yy{l:List Int}:eC l=true↔l.Nodup∧∀x∈l,1≤x∧x≤65535:=by
 constructor
 · intro h
   refine⟨iT h,fun x hx=>?_⟩
   simp only[eC,List.all_eq_true,List.mem_range,mP,decide_eq_true_eq]at h
   obtain⟨j,hj⟩:=List.mem_iff_getElem?.1 hx
   have:=h j (List.getElem?_eq_some_iff.1 hj).1
   rw[bB hj]at this
   exact⟨this.1,this.2.1⟩
 · rintro ⟨h1,h2⟩
   simp only[eC,List.all_eq_true,List.mem_range,mP,decide_eq_true_eq]
   intro j hj
   obtain⟨a,b⟩:=h2 _ (aa hj)
   refine⟨a,b,Decidable.byContradiction fun c=>?_⟩
   obtain⟨d,e⟩:=vk (l:=l.take j) (x:=nth l j) (by omega)
   have z:0≤bL (l.take j) (nth l j):=by omega
   generalize bL (l.take j) (nth l j)=k at*
   rw[List.length_take]at d
   have k1:k.toNat<j:=by omega
   have e1:(l.take j)[k.toNat]?=l[k.toNat]?:=List.getElem?_take_of_lt k1
   have e2:l[k.toNat]?=some l[k.toNat]:=List.getElem?_eq_getElem (by omega)
   rw[bB (e1.trans e2),←bB e2]at e
   have n2:=(List.getElem?_inj (by omega:k.toNat<l.length) h1).1 (show l[k.toNat]?=l[j]? by rw[jv (by omega),jv hj,e])
   omega
theorem MD{l:List Int}{lo hi:Int}:Oa l lo hi=true↔l.Pairwise (· < ·)∧∀x∈l,lo≤x∧x≤hi:=by
 have e:Oa l lo hi=true↔∀j,j<l.length→lo≤nth l j∧nth l j≤hi∧(0<j→nth l (j-1)<nth l j):=by
  simp only[Oa,Bool.not_eq_true',List.any_eq_false,List.mem_range,Jz,Bool.not_eq_true]
  constructor
  · intro h j hj
    have:=h j hj
    exact Decidable.byContradiction fun c=>this (decide_eq_false c)
  · intro h j hj c
    exact(of_decide_eq_false c) (h j hj)
 rw[e]
 constructor
 · intro h
   refine⟨?_,fun x hx=>?_⟩
   · have key:∀d i,i+d+1<l.length→nth l i<nth l (i+d+1):=by
      intro d
      induction d with
      | zero=>intro i hi;have:=(h (i+0+1) hi).2.2 (by omega);simpa using this
      | succ d ih=>
        intro i hi
        have a:=ih i (by omega)
        have b:=(h (i+(d+1)+1) hi).2.2 (by omega)
        rw[show i+(d+1)+1-1=i+d+1 by omega]at b
        omega
     rw[List.pairwise_iff_getElem]
     intro i j hi hj hij
     have:=key (j-i-1) i (by omega)
     rw[show i+(j-i-1)+1=j by omega,bB (List.getElem?_eq_getElem hi),bB (List.getElem?_eq_getElem hj)]at this
     exact this
   · obtain⟨j,hj⟩:=List.mem_iff_getElem?.1 hx
     have:=h j (List.getElem?_eq_some_iff.1 hj).1
     rw[bB hj]at this
     exact⟨this.1,this.2.1⟩
 · rintro ⟨h1,h2⟩ j hj
   refine⟨(h2 _ (aa hj)).1,(h2 _ (aa hj)).2,fun h0=>?_⟩
   have:=(List.pairwise_iff_getElem.1 h1) (j-1) j (by omega) hj (by omega)
   rwa [← bB (List.getElem?_eq_getElem (by omega:j-1<l.length)),←bB (List.getElem?_eq_getElem hj)]at this
theorem Hc(l:List Int):Oa (iL l) 1 65535=eC l:=by
 rw[Bool.eq_iff_iff,MD,yy]
 have p:=jQ l
 have u:=uq l
 constructor
 · rintro ⟨h1,h2⟩
   refine⟨p.nodup_iff.1 (h1.imp fun h=>by omega),fun x hx=>h2 x (p.mem_iff.2 hx)⟩
 · rintro ⟨h1,h2⟩
   have nd:(iL l).Nodup:=p.nodup_iff.2 h1
   refine⟨?_,fun x hx=>h2 x (p.mem_iff.1 hx)⟩
   have:=List.Pairwise.and u nd
   exact this.imp fun h=>by omega
theorem J6(l:List Int)(hl:l.length≤1000000):aN 0 N.eT [.t (tL l)] []=some (B (eC l),[]):=by
 refine ax K.oe rfl ?_
 have v:=yn l
 have s:=yo l hl
 have r:=Cq (iL l) 1 65535 (by rw[lx];omega)
 rw[Hc]at r
 simp (disch:=omega) only[go_sem,K.eT,↓reduceIte,v,s,r,Nat.reduceAdd,Nat.reduceSub]
theorem qX{n j:Nat}{p:Nat→Bool}(h1:j<n)(h2:p j=true)(h3:∀k,k<j→p k=false):(List.range n).find? p=some j:=by
 cases hf:(List.range n).find? p with
 | none=>exact absurd h2 (by simpa using List.find?_eq_none.1 hf j (List.mem_range.2 h1))
 | some k=>
   obtain⟨k1,k2⟩:=x7 hf
   have:k≤j:=by
    rcases Nat.lt_or_ge j k with c | c
    · rw[List.find?_range_eq_some]at hf
      exact absurd h2 (by simpa using hf.2.2 j c)
    · exact c
   rcases Nat.lt_or_ge k j with c | c
   · rw[h3 k c]at k2;cases k2
   · rw[show k=j by omega]
theorem CN{n:Nat}{p:Nat→Bool}(h:∀k,k<n→p k=false):(List.range n).find? p=none:=List.find?_eq_none.2 fun x hx=>by rw[h x (List.mem_range.1 hx)];simp
theorem CO(a b:List Int):decide (Mv a b<0)=qL a b:=by
 unfold Mv qL
 cases hf:(List.range (min a.length b.length)).find? (fun j=>decide (nth a j≠nth b j))with
 | some j=>
   rw[List.find?_range_eq_some]at hf
   obtain⟨h2,h1,h3⟩:=hf
   have h1:=List.mem_range.1 h1
   have e:(List.range a.length).find? (FP a b)=some j:=qX (by omega) (by simp only[FP,h2,Bool.or_true]) (fun k hk=>by
    have:=h3 k hk
    simp only[FP,Bool.or_eq_false_iff,decide_eq_false_iff_not]
    exact⟨by omega,by simpa using this⟩)
   have h2:nth a j≠nth b j:=by simpa using h2
   rw[e]
   simp only[if_neg (by omega:¬b.length≤j)]
   rw[decide_eq_decide]
   unfold JP
   split
   · omega
   · split<;>omega
 | none=>
   have h3:∀k,k<min a.length b.length→nth a k=nth b k:=fun k hk=>by
    have:=List.find?_eq_none.1 hf k (List.mem_range.2 hk)
    simpa using this
   by_cases c:a.length≤b.length
   · have e:(List.range a.length).find? (FP a b)=none:=CN fun k hk=>by
      simp only[FP,Bool.or_eq_false_iff,decide_eq_false_iff_not,Decidable.not_not]
      exact⟨by omega,h3 k (by omega)⟩
     rw[e]
     simp only[decide_eq_decide]
     split<;>omega
   · have e:(List.range a.length).find? (FP a b)=some b.length:=qX (by omega) (by simp[FP]) (fun k hk=>by
      simp only[FP,Bool.or_eq_false_iff,decide_eq_false_iff_not,Decidable.not_not]
      exact⟨by omega,h3 k (by omega)⟩)
     rw[e]
     simp only[Nat.le_refl,if_true,decide_eq_decide]
     omega
def pwB(m:aT)(ws:List World)(first:List Int)(i:Nat):Bool:=
 decide (1≤(nth ws i).tags.length∧(nth ws i).tags.length≤12)&&decide ((nth ws i).whr.length=(nth ws i).tags.length)&&eC (nth ws i).tags&&decide (iL (nth ws i).tags=iL first)&&(decide (i=0)||qL (nth ws (i-1)).tags (nth ws i).tags)&& !((nth ws i).whr.any fun x=> !cL m x)
def ME(m:aT)(b:Bel):Bool:=decide (1≤b.worlds.length∧b.worlds.length≤24)&&(List.range b.worlds.length).all (pwB m b.worlds (nth b.worlds 0).tags)
theorem wB{a b:List Int}:iL a=iL b↔a.Perm b:=by
 constructor
 · intro h
   exact(jQ a).symm.trans (h▸jQ b)
 · intro h
   exact ZQ (uq a) (uq b) ((jQ a).trans (h.trans (jQ b).symm))
theorem r5{a b:List Int}(ha:a.Nodup)(hb:b.Nodup)(hl:a.length=b.length)(hs:∀x∈a,x∈b):a.Perm b:=by
 have key:∀y∈b,y∈a:=fun y hy=>Decidable.byContradiction fun hn=>by
  have:=pS ha (l':=b.erase y) (fun x hx=>(List.mem_erase_of_ne (fun e=>hn (by rw[← e];exact hx))).2 (hs x hx))
  rw[List.length_erase_of_mem hy]at this
  have:=List.length_pos_of_mem hy
  omega
 exact(List.perm_ext_iff_of_nodup ha hb).2 fun x=>⟨hs x,key x⟩
theorem MF(m:aT)(b:Bel):ME m b=qf m b:=by
 obtain⟨ws⟩:=b
 rw[Bool.eq_iff_iff]
 constructor
 · intro h
   simp only[ME,Bool.and_eq_true,decide_eq_true_eq,List.all_eq_true,List.mem_range,pwB,Bool.or_eq_true,Bool.not_eq_true',List.any_eq_false,Bool.not_eq_false']at h
   obtain⟨⟨h1,h2⟩,h⟩:=h
   have h0:=h 0 (by omega)
   simp only[qf,Bool.and_eq_true,decide_eq_true_eq,List.all_eq_true,List.mem_range,oJ,Bool.or_eq_true,HU]
   refine⟨⟨⟨h1,h2⟩,h0.1.1.1.1.1⟩,fun i hi=>?_⟩
   obtain⟨⟨⟨⟨⟨a1,a2⟩,a3⟩,a4⟩,a5⟩,a6⟩:=h i hi
   have pm:=wB.1 a4
   refine⟨⟨⟨⟨pm.length_eq,by rw[a2,pm.length_eq]⟩,a3⟩,a5⟩,fun k hk=>⟨?_,?_⟩⟩
   · exact kR.2 (pm.mem_iff.1 (aa hk))
   · simpa using a6 _ (aa (l:=(nth ws i).whr) (j:=k) (by omega))
 · intro h
   obtain⟨h1,h2,h3,h4,h5⟩:=fN h
   simp only at h1 h2 h3 h4 h5
   have p0:=(gE (h5 0 (by omega))).2.2.1
   simp only[ME,Bool.and_eq_true,decide_eq_true_eq,List.all_eq_true,List.mem_range,pwB,Bool.or_eq_true,Bool.not_eq_true',List.any_eq_false,Bool.not_eq_false']
   refine⟨⟨h1,h2⟩,fun i hi=>?_⟩
   obtain⟨w1,w2,w3,w4⟩:=gE (h5 i hi)
   have ls:=h5 i hi
   simp only[oJ,Bool.and_eq_true,Bool.or_eq_true,decide_eq_true_eq]at ls
   refine⟨⟨⟨⟨⟨by omega,by omega⟩,w3⟩,?_⟩,ls.1.2⟩,fun x hx=>?_⟩
   · refine wB.2 (r5 (iT w3) (iT p0) w1 fun x hx=>?_)
     obtain⟨j,hj⟩:=List.mem_iff_getElem?.1 hx
     have:=(w4 j (List.getElem?_eq_some_iff.1 hj).1).1
     rwa [bB hj]at this
   · obtain⟨j,hj⟩:=List.mem_iff_getElem?.1 hx
     have:=(w4 j (by rw[w1,←w2];exact(List.getElem?_eq_some_iff.1 hj).1)).2
     rw[bB hj]at this
     simpa using this
theorem Er{m:aT}(h:m.ok)(x:Wh)(hx:x.frm.length≤1000000):aN 0 N.cT [.t x.e,.bp 0 0] [.box (af m)]=some (B (!cL m x),[.box (af m)]):=by
 refine ax K.mT rfl ?_
 have v:=JA h x hx
 obtain⟨places,roads⟩:=m
 obtain⟨time,frm⟩:=x
 simp only at*
 simp (disch:=omega) only[go_sem,K.cT,↓reduceIte,v,Nat.reduceAdd,Nat.reduceSub]
abbrev swS(m:aT)(ws:List World)(first:List Int)(i:Nat):St:=
 ⟨[.und,.und,.bp 0 0,.bp 1 0,.und,.t (tL (iL first)),.und,.und,.t (.sl (ws.map World.e)),I ws.length,I i],[.box (af m),.box [.t (.sl (ws.map World.e))],.box [.t (tL first)]]⟩
theorem J7{m:aT}(h:m.ok)(ws:List World)(first:List Int)(hf:first.length≤1000000)(hs:∀x∈ws,x.sz)(i:Nat)(hi:i<ws.length)(hl:ws.length≤1000000):
 (pwB m ws first i=true→fJ true [0,1,4,6,7] 3 (exS aN K.bH (swS m ws first i))=some (swS m ws first (i+1)))∧
 (pwB m ws first i=false→∃q,exS aN K.bH (swS m ws first i)=some q∧q.1= .ret∧q.2.vs[4]?=some (B false)):=by
 simp only[swS]
 have sz:=hs _ (aa hi)
 have ex:(ws.map World.e)[i]?=some (nth ws i).e:=dz _ hi
 unfold pwB
 have ey:0<i→(ws.map World.e)[i-1]?=some (nth ws (i-1)).e∧(nth ws (i-1)).tags.length≤1000000:=fun h0=>⟨dz _ (by omega),(hs _ (aa (by omega))).1⟩
 generalize nth ws (i-1)=y at*
 generalize nth ws i=x at*
 obtain⟨tags,whr⟩:=x
 obtain⟨ptags,pwhr⟩:=y
 obtain⟨s1,s2,s3⟩:=sz
 simp only at s1 s2 s3 ey ⊢
 have li:=I8 tags.length 1 12
 have tg:=J6 tags s1
 have va:=yn tags
 have so:=yo tags s1
 have eq:=xi (iL tags) (iL first) (by rw[lx];omega) (by rw[lx];omega)
 have cf:=p8 whr (by omega) N.cT [[.sl (m.places.map Place.e),.sl (m.roads.map Road.e)]] (fun x=> !cL m x) (fun x hx=>Er h x (s3 x hx))
 have cf:aN 0 N.ae [.t (.sl (whr.map Wh.e)),.fn N.cT [.bp 0 0]] [.box (af m)]=some (B (whr.any fun x=> !cL m x),[.box (af m)]):=cf
 have cp:0<i→aN 0 N.aP [.t (tL ptags),.t (tL tags)] []=some (I (Mv ptags tags),[]):=fun h0=>zJ ptags tags (ey h0).2 s1
 have cl:=CO ptags tags
 generalize iL tags=st at*
 generalize iL first=sf at*
 generalize (whr.any fun x=> !cL m x)=an at*
 generalize eC tags=pr at*
 generalize qL ptags tags=le at*
 generalize Mv ptags tags=cc at*
 clear hs s3
 by_cases c1:1≤tags.length∧tags.length≤12
 · have li:aN 0 N.eM [I tags.length,I 1,I 12] []=some (B true,[]):=by rw[li,decide_eq_true (by omega)]
   by_cases c2:whr.length=tags.length
   · cases pr with
     | false=>
       refine⟨fun h=>by simp at h,fun _=>?_⟩
       simp (disch:=omega) only[go_sem,K.bH,↓reduceIte,li,tg,ex,c2,Nat.reduceAdd,Nat.reduceSub]
       refine⟨_,rfl,?_,?_⟩<;>rfl
     | true=>
       by_cases c4:st=sf
       · subst c4
         simp only[decide_true]at eq
         cases i with
         | zero=>
           cases an with
           | true=>
             refine⟨fun h=>by simp at h,fun _=>?_⟩
             simp (disch:=omega) only[go_sem,K.bH,↓reduceIte,li,tg,ex,c2,va,so,eq,cf,Nat.reduceAdd,Nat.reduceSub]
             refine⟨_,rfl,?_,?_⟩<;>rfl
           | false=>
             refine⟨fun _=>?_,fun h=>by simp[c1,c2]at h⟩
             simp (disch:=omega) only[go_sem,K.bH,↓reduceIte,li,tg,ex,c2,va,so,eq,cf,Nat.reduceAdd,Nat.reduceSub]
         | succ i=>
           obtain⟨ey, -⟩:=ey (by omega)
           have cp:=cp (by omega)
           simp only[Nat.add_sub_cancel]at ey
           cases le with
           | false=>
             have cl:¬cc<0:=by simpa using cl
             refine⟨fun h=>by simp at h,fun _=>?_⟩
             simp (disch:=omega) only[go_sem,K.bH,↓reduceIte,li,tg,ex,c2,va,so,eq,ey,cp,Nat.reduceAdd,Nat.reduceSub]
             refine⟨_,rfl,?_,?_⟩<;>rfl
           | true=>
             have cl:cc<0:=by simpa using cl
             cases an with
             | true=>
               refine⟨fun h=>by simp at h,fun _=>?_⟩
               simp (disch:=omega) only[go_sem,K.bH,↓reduceIte,li,tg,ex,c2,va,so,eq,ey,cp,cf,Nat.reduceAdd,Nat.reduceSub]
               refine⟨_,rfl,?_,?_⟩<;>rfl
             | false=>
               refine⟨fun _=>?_,fun h=>by simp[c1,c2]at h⟩
               simp (disch:=omega) only[go_sem,K.bH,↓reduceIte,li,tg,ex,c2,va,so,eq,ey,cp,cf,Nat.reduceAdd,Nat.reduceSub]
       · simp only[c4,decide_false]at eq
         refine⟨fun h=>by simp[c4]at h,fun _=>?_⟩
         simp (disch:=omega) only[go_sem,K.bH,↓reduceIte,li,tg,ex,c2,va,so,eq,Nat.reduceAdd,Nat.reduceSub]
         refine⟨_,rfl,?_,?_⟩<;>rfl
   · refine⟨fun h=>by simp[c2]at h,fun _=>?_⟩
     simp (disch:=omega) only[go_sem,K.bH,↓reduceIte,li,ex,c2,Nat.reduceAdd,Nat.reduceSub]
     refine⟨_,rfl,?_,?_⟩<;>rfl
 · have li:aN 0 N.eM [I tags.length,I 1,I 12] []=some (B false,[]):=by rw[li,decide_eq_false (by omega)]
   refine⟨fun h=>by simp[c1]at h,fun _=>?_⟩
   simp (disch:=omega) only[go_sem,K.bH,↓reduceIte,li,ex,Nat.reduceAdd,Nat.reduceSub]
   refine⟨_,rfl,?_,?_⟩<;>rfl
end Go.Ev
namespace Go.Ev
open Go
variable [Lib] [cn] [bS] [kt] [iJ]
theorem J8{l:List Int}{n:Int}(h:sI l n=true):∀x∈l,0≤x∧x<n:=by
 intro x hx
 simp only[sI,List.all_eq_true,List.mem_range,decide_eq_true_eq]at h
 obtain⟨j,hj⟩:=List.mem_iff_getElem?.1 hx
 have:=h j (List.getElem?_eq_some_iff.1 hj).1
 rw[bB hj]at this
 exact⟨this.1,this.2.1⟩
theorem Ro{w:Wh}{l:List Int}{b:Int}{n:Nat}(hl:∀p∈l,0≤p∧p<n)(hw:∀x∈w.frm,plT x)(hn:w.frm.length=n):∀x∈(yP w l b n l.length).1,plT x:=by
 intro x hx
 obtain⟨j,hj⟩:=List.mem_iff_getElem?.1 hx
 have jl:=(List.getElem?_eq_some_iff.1 hj).1
 rw[pC]at jl
 have e:=FC (w:=w) (b:=b) hl _ (Nat.le_refl _) j jl
 rw[bB hj]at e
 rw[e]
 split
 · exact hw _ (aa (by omega))
 · exact .inl rfl
theorem J9{m:aT}(h:m.ok){w:Wh}(hv:cL m w=true)(l:List Int)(a b:Int):
 (yS m w l a b=(⟨b,cD m a none (yP w l b m.places.length l.length).1⟩,0)∧ka m w l a b=0∧w.time≤a∧(yP w l b m.places.length l.length).2=true∧cL m (yS m w l a b).1=true)∨((yS m w l a b).1=w∧(yS m w l a b).2≠0):=by
 by_cases c0:ka m w l a b=0
 · obtain⟨-,h0,hs,ia,ib,hab⟩:=mb c0
   by_cases c1:a<w.time
   · right;unfold yS;rw[if_neg (by simpa using c0),if_pos c1];exact⟨rfl,by simp⟩
   · cases c2:(yP w l b m.places.length l.length).2 with
     | false=>right;unfold yS;rw[if_neg (by simpa using c0),if_neg c1,if_neg (by simp[c2])];exact⟨rfl,by simp⟩
     | true=>
       left
       have e:yS m w l a b=(⟨b,cD m a none (yP w l b m.places.length l.length).1⟩,0):=by
        unfold yS;rw[if_neg (by simpa using c0),if_neg c1,if_pos c2]
       obtain⟨v1,v2,v3, -⟩:=bZ hv
       refine⟨e,c0,by omega,rfl,?_⟩
       rw[e]
       exact pD h (pC ..) (Ro (J8 hs) v3 v1) ia.1 hab ib
 · right;unfold yS;rw[if_pos c0];exact⟨rfl,c0⟩
theorem Ka{m:aT}(h:m.ok){w:Wh}(hv:cL m w=true)(l:List Int)(a b:Int):cL m (yS m w l a b).1=true:=by
 rcases J9 h hv l a b with⟨-, -, -, -,v⟩ | ⟨e, -⟩
 · exact v
 · rw[e];exact hv
end Go.Ev
namespace Go.Ev
open Go
variable [Lib] [cn] [bS] [iE] [iv] [gV] [gW] [kt] [iJ]
theorem MG(a b:Wh)(ha:a.frm.length≤1000000):aN 0 N.fg [.t a.e,.t b.e] []=some (.tup [.t (iR a b).1.e,I (iR a b).2],[]):=by
 refine ax K.pH rfl ?_
 obtain⟨t1,l1⟩:=a
 obtain⟨t2,l2⟩:=b
 simp only[iR]at*
 by_cases c:l1.length=l2.length
 · rw[if_pos c]
   have ml:=kU l1 l2
   have lp:∀z0 z1 z2 z5 z7 z8:D,exS aN K.rW ⟨[z0,z1,z2,.bp 1 0,.bp 2 0,z5,.bp 3 0,z7,z8,.t (tL l1),I l1.length,I 0],[.box [I t1,.t (tL l1)],.box [I t2,.t (tL l2)],.box [I 0,.nil],.box [I (max t1 t2),.ref 5 0 0],.arr 1 false 0 [],.arr 1 false 0 []]⟩=
    some (.exit 0,⟨[.und,.und,.und,.bp 1 0,.bp 2 0,.und,.bp 3 0,.und,.und,.t (tL l1),I l1.length,I l1.length],[.box [I t1,.t (tL l1)],.box [I t2,.t (tL l2)],.box [I 0,.nil],.box [I (max t1 t2),.ref 5 0 (zz l1 l2 l1.length).length],.arr 1 false 0 [],.arr 1 false 0 (((zz l1 l2 l1.length).map (T.int .i64)).map .t)]⟩):=by
    intro z0 z1 z2 z5 z7 z8
    refine b5 (fun j=>⟨[.und,.und,.und,.bp 1 0,.bp 2 0,.und,.bp 3 0,.und,.und,.t (tL l1),I l1.length,I j],[.box [I t1,.t (tL l1)],.box [I t2,.t (tL l2)],.box [I 0,.nil],.box [I (max t1 t2),.ref 5 0 (zz l1 l2 j).length],.arr 1 false 0 [],.arr 1 false 0 (((zz l1 l2 j).map (T.int .i64)).map .t)]⟩) l1.length rfl ?_ ?_ (by simp)
    · intro j hj
      have lj:=ml j
      simp only[zz]
      generalize zz l1 l2 j=r at*
      simp (disch:=omega) only[go_sem,K.mM,↓reduceIte,Nat.reduceAdd,Nat.reduceSub]
    · simp (disch:=omega) only[go_sem,K.mM,↓reduceIte,Nat.reduceAdd,Nat.reduceSub]
   generalize zz l1 l2 l1.length=r at*
   have c2:=c.symm
   simp (disch:=omega) only[go_sem,K.fg,↓reduceIte,c2,lp,Nat.reduceAdd,Nat.reduceSub]
 · rw[if_neg c]
   simp (disch:=omega) only[go_sem,K.fg,↓reduceIte,c,Nat.reduceAdd,Nat.reduceSub]
   rfl
end Go.Ev
