/- Parts of the proof: see the text that holds the theorem. -/
import GoSem.Core.View
import Derived.Calls
import Derived.Orders
import Derived.RangeFuncLeaves
import Derived.RangeFuncCalls
import Derived.OrdersIn
import Derived.OwnWalkIn
import Derived.WalkKit
import Derived.Laws.AppendOwn
import Derived.LoopN
import Derived.OpenShut
import Derived.Carry
import Derived.RowKit2
import Derived.Handed
import Derived.JoinedOf
import Derived.JoinedAt
import Derived.Attr
set_option linter.all false
open Nat (reduceAdd reduceSub)
namespace Go
abbrev aLa:=@Option.bind_eq_some_iff
abbrev aLb:=@Option.map_eq_some_iff
abbrev aLc:=@List.getElem?_eq_getElem
abbrev aLd:=@List.mem_of_getElem?
abbrev aLe:=@List.getElem?_eq_some_iff
abbrev aLf:=@List.mem_iff_getElem?
abbrev aLg:=@List.getElem?_append_left
abbrev aLh:=@List.getElem?_append_right
abbrev aLi:=@List.getElem?_set_ne
abbrev aLj:=@List.getElem?_set_self
abbrev aLk:=@List.mem_or_eq_of_mem_set
abbrev aLl:=@List.getD_eq_getElem?_getD
abbrev aLm:=@List.getElem?_eq_none
abbrev aLn:=@List.getElem?_map
abbrev aLo:=@List.getElem?_take
abbrev aLp:=@List.getElem?_range
abbrev aLq:=@Option.bind_some
abbrev aLr:=@Bool.and_eq_true
abbrev aLs:=@Nat.le_refl
abbrev aLt:=@Bool.false_eq_true
abbrev aLu:=@List.mem_range
abbrev aLv:=@List.length_append
abbrev aLw:=@Option.map_some
abbrev aLx:=@List.all_eq_true
end Go
namespace Go.Ev
open Go
inductive T where
 | int (k:IntKind) (n:Int)
 | bool (b:Bool)
 | str (s:ByteArray)
 | agg (cs:List T)
 | sl (es:List T)
 deriving Inhabited
inductive D where
 | t (x:T)
 | nil
 | agg (cs:List D)
 | bp (id off:Nat)
 | ap (id ep n i off:Nat)
 | ep (cs:List T)
 | ref (id ep n:Nat)
 | sub (id ep n lo hi:Nat)
 | fn (f:Nat) (caps:List D)
 | tup (ds:List D)
 | nilp
 | und
 | ub
 | cl (es:List T)
 | q (id ep:Nat) (es:List T)
 deriving Inhabited
inductive Obj where
 | box (cs:List D)
 | arr (sz:Nat) (pin:Bool) (ep:Nat) (es:List D)
 | own (ep:Nat)
 deriving Inhabited
abbrev af:=List Obj
inductive X where
 | v (j:Nat)
 | l (k:Nat)
 | c (d:D)
 | i (n:Int)
 | b (x:Bool)
 deriving Inhabited
inductive EqK where
 | bool | str | sl | ints (n:Nat) | sc (ks:List Bool)
 deriving DecidableEq,Inhabited
inductive O where
 | mv (x:X)
 | pk (c a b:X)
 | bin (f:BinOp) (x y:X)
 | eqk (q:EqK) (neg:Bool) (x y:X)
 | un (f:UnOp) (x:X)
 | cv (k:IntKind) (x:X)
 | nc (x:X)
 | fa (x:X) (off:Nat)
 | fl (x:X) (off n:Nat) (agg:Bool)
 | ia (x i:X) (sz:Nat)
 | iaa (x i:X) (len sz:Nat)
 | ix (x i:X) (len sz:Nat) (agg:Bool)
 | bd (zero:List D) (parts:List (Nat×Nat×X))
 | bs (xs:List X) (sz:Nat)
 | bsr (xs:List X) (sz:Nat)
 | bsq (x:X)
 | ld (x:X) (n:Nat) (agg:Bool)
 | st (a x:X) (n:Nat) (live:List (Nat×Nat))
 | ln (x:X)
 | mn (xs:List X)
 | mx (xs:List X)
 | sc (x:X) (lo hi:Option X) (sz:Nat)
 | s3 (x hi mx:X)
 | pop (x hi:X)
 | ex (x:X) (i:Nat)
 | mf (f:Nat) (caps:List X)
 | ca (f:Nat) (raw:Nat) (keep:List Nat) (xs:List X)
 | cw (x:X) (raw:Nat) (keep:List Nat) (xs:List X)
 | app (x y:X) (fz:Bool) (sz:Nat)
 | cp (x y:X) (sz:Nat)
 | clr (x:X) (zero:T) (sz:Nat)
 | bst (x:X)
 | fnz (neg:Bool) (x:X)
 | mk (len:X) (zero:D) (sz:Nat)
 | mkt (len:X) (zero:T) (sz:Nat)
 | mkn (len:X) (zero:T) (sz:Nat)
 | mkw (len:X) (c esz:Nat)
 | al (zero:List D) (live:List (Nat×Nat))
 | bx (x:X) (n:Nat)
 | nw (sz:Nat)
 deriving Inhabited
structure R where
 o:O
 d:Option Nat:=none
 g:Option (Nat×Bool):=none
 deriving Inhabited
inductive C where
 | skip
 | reg (rs:List R) (ps:List (Nat×Nat))
 | seq (a b:C)
 | ite (rs:List R) (ps:List (Nat×Nat)) (k:Nat) (a b:C)
 | its (rs:List R) (ps:List (Nat×Nat)) (k:Nat) (a b c:C)
 | itk (rs:List R) (ps:List (Nat×Nat)) (k:Nat) (a b c:C)
 | itv (j:Nat) (a b:C)
 | blk (id:Nat) (c:C)
 | loop (gc:Bool) (dead:List Nat) (c:C)
 | exit (id:Nat)
 | ret
 | fail
 | cnd (v:Bool) (c:C)
 | rng (x p f:Nat) (r1:List R) (p1:List (Nat×Nat)) (r2:List R) (p2:List (Nat×Nat))
 deriving Inhabited
inductive Ex where
 | normal | ret | exit (id:Nat)
 deriving DecidableEq,Inhabited
structure Fn where
 aq:Nat
 vars:List Nat
 body:C
 res:List (Nat×Option (Nat×Bool))
 /-- What stands for the code, if the code is not gone through. -/
 prim:List Nat:=[]
 deriving Inhabited
def lim:Nat:=4294967296
def depth:Nat:=8
def cK{α β:Type}(f:α→Option β):List α→Option (List β)
 | []=>some []
 | x::r=>(f x).bind fun y=>(cK f r).map (y:: ·)
def T.cells:T→List T
 | .agg cs=>cs
 | x=>[x]
def D.cells:D→List D
 | .agg cs=>cs
 | .t x=>x.cells.map .t
 | d=>[d]
def D.isAgg:D→Bool
 | .agg _=>true
 | .t (.agg _)=>true
 | _=>false
def D.lO:D→Bool
 | .und=>false
 | .ub=>false
 | .tup _=>false
 | _=>true
def T.scalar:T→Bool
 | .int .. =>true
 | .bool _=>true
 | .str _=>true
 | _=>false
def tw:List D→Option (List T)
 | []=>some []
 | .t x::r=>(tw r).map (x:: ·)
 | _::_=>none
def xa(cs:List D):D:=match tw cs with
 | some ts=> .t (.agg ts)
 | none=> .agg cs
def fU(agg:Bool)(cs:List D):Option D:=
 if agg then some (xa cs)else match cs with
  | [c]=>some c
  | _=>none
def fV(H:af)(id ep n:Nat):Option (Nat×Bool×List D):=match H[id]? with
 | some (.arr sz pin ep' es)=>if ep=ep'∧n=es.length then some (sz,pin,es)else none
 | _=>none
def ER(H:af)(id ep:Nat):Bool:=match H[id]? with
 | some (.own ep')=>ep==ep'
 | _=>false
def elems(H:af):D→Option (List D)
 | .t (.sl es)=>some (es.map .t)
 | .nil=>some []
 | .ref id ep n=>(fV H id ep n).map (·.2.2)
 | .sub id ep n lo hi=>(fV H id ep n).map fun a=>(a.2.2.drop lo).take (hi-lo)
 | _=>none
def frz(H:af):Nat→D→Option T
 | _,.t x=>some x
 | _,.nil=>some (.sl [])
 | n+1,.agg cs=>(cK (frz H n) cs).map .agg
 | n+1,.ref id ep m=>((fV H id ep m).bind fun a=>cK (frz H n) a.2.2).map .sl
 | n+1,.sub id ep m lo hi=>((fV H id ep m).bind fun a=>cK (frz H n) ((a.2.2.drop lo).take (hi-lo))).map .sl
 | _,_=>none
def gu(H:af):Nat→D→List Nat
 | n+1,.agg cs=>cs.flatMap (gu H n)
 | n+1,.ref id _ _=>id::(match H[id]? with | some (.arr _ _ _ es)=>es.flatMap (gu H n) | _=>[])
 | n+1,.sub id _ _ _ _=>id::(match H[id]? with | some (.arr _ _ _ es)=>es.flatMap (gu H n) | _=>[])
 | _,_=>[]
def Is:Obj→Obj
 | .arr sz _ ep es=> .arr sz true ep es
 | o=>o
def pins(H:af):List Nat→af
 | []=>H
 | i::r=>pins (H.modify i Is) r
def ids:Nat→D→List Nat
 | n+1,.agg cs=>cs.flatMap (ids n)
 | n+1,.tup cs=>cs.flatMap (ids n)
 | n+1,.fn _ cs=>cs.flatMap (ids n)
 | _,.bp id _=>[id]
 | _,.ap id _ _ _ _=>[id]
 | _,.ref id _ _=>[id]
 | _,.sub id _ _ _ _=>[id]
 | _,.q id _ _=>[id]
 | _,_=>[]
def Obj.ds:Obj→List D
 | .box cs=>cs
 | .arr _ _ _ es=>es
 | .own _=>[]
def ir(sel:List Nat):List Nat→List Nat
 | []=>sel
 | i::r=>if sel.contains i then ir sel r else ir (sel++[i]) r
def vu(H:af)(sel:List Nat):List Nat:=sel.flatMap fun i=>match H[i]? with
 | some o=>o.ds.flatMap (ids depth)
 | none=>[]
def reach(H:af):Nat→List Nat→List Nat
 | 0,sel=>sel
 | n+1,sel=>reach H n (ir sel (vu H sel))
def ren(f:Nat→Option Nat):Nat→D→Option D
 | n+1,.agg cs=>(cK (ren f n) cs).map .agg
 | n+1,.tup cs=>(cK (ren f n) cs).map .tup
 | n+1,.fn g cs=>(cK (ren f n) cs).map (.fn g)
 | _,.bp id off=>(f id).map (.bp · off)
 | _,.ap id ep n i off=>(f id).map (.ap · ep n i off)
 | _,.ref id ep n=>(f id).map (.ref · ep n)
 | _,.sub id ep n lo hi=>(f id).map (.sub · ep n lo hi)
 | _,.t x=>some (.t x)
 | _,.nil=>some .nil
 | _,.ep cs=>some (.ep cs)
 | _,.nilp=>some .nilp
 | _,.und=>some .und
 | _,.ub=>some .ub
 | _,.cl es=>some (.cl es)
 | _,.q id ep es=>(f id).map (.q · ep es)
 | 0,_=>none
def jB(f:Nat→Option Nat):Obj→Option Obj
 | .box cs=>(cK (ren f depth) cs).map .box
 | .arr sz pin ep es=>(cK (ren f depth) es).map (.arr sz pin ep)
 | .own ep=>some (.own ep)
def oR:D→Bool
 | .t x=>x.scalar
 | _=>false
def tx:D→Bool
 | .t x=>x.scalar
 | .tup ds=>ds.all oR
 | _=>false
def Kb(f:BinOp)(k:IntKind)(a b:Int):Option T:=match f with
 | .add=>some (.int k (k.wrap (a+b)))
 | .sub=>some (.int k (k.wrap (a-b)))
 | .mul=>some (.int k (k.wrap (a*b)))
 | .quo=>if b=0 then none else some (.int k (k.wrap (a.tdiv b)))
 | .rem=>if b=0 then none else some (.int k (a.tmod b))
 | .eql=>some (.bool (a==b))
 | .neq=>some (.bool (a != b))
 | .lss=>some (.bool (decide (a<b)))
 | .leq=>some (.bool (decide (a≤b)))
 | .gtr=>some (.bool (decide (b<a)))
 | .geq=>some (.bool (decide (b≤a)))
 | .and=>some (.int k (k.wrap (BitVec.ofInt k.bits a &&& BitVec.ofInt k.bits b).toNat))
 | .or=>some (.int k (k.wrap (BitVec.ofInt k.bits a ||| BitVec.ofInt k.bits b).toNat))
 | .xor=>some (.int k (k.wrap (BitVec.ofInt k.bits a ^^^ BitVec.ofInt k.bits b).toNat))
 | .andNot=>some (.int k (k.wrap (BitVec.ofInt k.bits a &&& ~~~BitVec.ofInt k.bits b).toNat))
 | _=>none
def FR(f:BinOp)(k:IntKind)(a b:Int):Option T:=
 if b<0 then none else match f with
 | .shl=>some (.int k (k.wrap (a*2 ^ min b.toNat k.bits)))
 | .shr=>some (.int k (a.fdiv (2 ^ min b.toNat k.bits)))
 | _=>none
def qm:List T→List T→Option Bool
 | [],[]=>some true
 | .int j a::xs,.int k b::ys=>if j=k then(qm xs ys).map ((a==b)&& ·)else none
 | _,_=>none
def nW:List Bool→List T→List T→Option Bool
 | [],[],[]=>some true
 | true::ks,.int j a::xs,.int k b::ys=>if j=k then(nW ks xs ys).map ((a==b)&& ·)else none
 | false::ks,.bool a::xs,.bool b::ys=>(nW ks xs ys).map ((a==b)&& ·)
 | _,_,_=>none
def eqD:EqK→D→D→Option Bool
 | .bool,.t (.bool a),.t (.bool b)=>some (a==b)
 | .str,.t (.str a),.t (.str b)=>some (a==b)
 | .ints n,.t (.agg xs),.t (.agg ys)=>if xs.length=n then qm xs ys else none
 | .sc ks,.t (.agg xs),.t (.agg ys)=>nW ks xs ys
 | .sl,.t (.sl (_::_)),.nil=>some false
 | .sl,.nil,.t (.sl (_::_))=>some false
 | .sl,.nil,.nil=>some true
 | .sl,.ref _ _ (_+1),.nil=>some false
 | _,_,_=>none
def VL(q:EqK)(neg:Bool)(a b:D):Option D:=match eqD q a b with
 | some r=>some (.t (.bool (if neg then !r else r)))
 | none=>match q,a,b with
   | .sl,.t (.sl []),.nil=>some .ub
   | _,_,_=>none
def FT(f:BinOp)(x y:D):Option D:=match x,y with
 | .t (.int j a),.t (.int k b)=>(match f with
  | .shl=>FR .shl j a b
  | .shr=>FR .shr j a b
  | f=>if j=k then Kb f j a b else none).map .t
 | _,_=>none
def unD(f:UnOp)(x:D):Option D:=match f,x with
 | .not,.t (.bool b)=>some (.t (.bool (!b)))
 | .neg,.t (.int k n)=>some (.t (.int k (k.wrap (0-n))))
 | _,_=>none
def intOf:D→Option Int
 | .t (.int _ n)=>some n
 | _=>none
def idx(i:Int):Option Nat:=if 0≤i then some i.toNat else none
def bq{α:Type}(cs:List α)(off:Nat)(xs:List α):Option (List α):=
 if off+xs.length≤cs.length then some (cs.take off++xs++cs.drop (off+xs.length))else none
def yK(zero:List D):List (Nat×Nat×D)→Option (List D)
 | []=>some zero
 | (off,n,x)::r=>if x.lO&&x.cells.length==n then(bq zero off x.cells).bind fun z=>yK z r else none
def Nz(x:D)(off:Nat):Option D:=match x with
 | .bp id o=>some (.bp id (o+off))
 | .ap id ep n i o=>some (.ap id ep n i (o+off))
 | .ep cs=>some (.ep (cs.drop off))
 | _=>none
def GK(H:af)(x:D)(i:Int)(sz:Nat):Option D:=match x with
 | .t (.sl es)=>(idx i).bind fun j=>es[j]?.bind fun e=>if e.cells.length=sz then some (.ep e.cells)else none
 | .ref id ep n=>(idx i).bind fun j=>(fV H id ep n).bind fun a=>if j<n∧a.1=sz then some (.ap id ep n j 0)else none
 | .sub id ep n lo hi=>(idx i).bind fun j=>(fV H id ep n).bind fun a=>if lo+j<hi∧hi≤n∧a.1=sz then some (.ap id ep n (lo+j) 0)else none
 | .q id ep es=>(idx i).bind fun j=>es[j]?.bind fun e=>if ER H id ep=true∧e.cells.length=sz then some (.ep e.cells)else none
 | _=>none
def cut(cs:List D)(off n:Nat):Option (List D):=if off+n≤cs.length then some ((cs.drop off).take n)else none
def Ak(H:af)(x:D)(n:Nat)(agg:Bool):Option D:=match x with
 | .bp id off=>match H[id]? with
   | some (.box cs)=>(cut cs off n).bind (fU agg)
   | _=>none
 | .ap id ep m i off=>(fV H id ep m).bind fun a=>a.2.2[i]?.bind fun e=>(cut e.cells off n).bind (fU agg)
 | .ep cs=>(cut (cs.map .t) 0 n).bind (fU agg)
 | _=>none
def Bl(H:af)(x v:D)(n:Nat):Option af:=
 if v.cells.length=n∧v.lO then match x with
  | .bp id off=>match H[id]? with
    | some (.box cs)=>(bq cs off v.cells).map fun cs'=>H.set id (.box cs')
    | _=>none
  | .ap id ep m i off=>(fV H id ep m).bind fun a=>if a.2.1 then none else a.2.2[i]?.bind fun e=>
   (bq e.cells off v.cells).bind fun cs'=>(fU e.isAgg cs').bind fun e'=>if e'.lO then some (H.set id (.arr a.1 false ep (a.2.2.set i e')))else none
  | _=>none
 else none
def cD(sz:Nat):List D→Bool
 | []=>true
 | d::_=>d.cells.length==sz
def pZ(H:af)(x y:D)(fz:Bool)(sz:Nat):Option (D×af):=
 (elems H y).bind fun ys0=>(if fz then cK (fun d=>(frz H depth d).map .t) ys0 else some ys0).bind fun ys=>
 if cD sz ys then
  let H1:=if fz then pins H (ys0.flatMap (gu H depth))else H
  match x with
  | .nil=>if ys.length≤lim then some (.ref H1.length 0 ys.length,H1++[.arr sz false 0 ys])else none
  | .ref id ep n=>(fV H1 id ep n).bind fun a=>if a.1=sz∧n+ys.length≤lim then
   some (.ref id ep (n+ys.length),H1.set id (.arr sz a.2.1 ep (a.2.2++ys)))else none
  | .cl es=>if 0<ys.length∧es.length+ys.length≤lim∧cD sz (es.map .t)=true then some (.ref H1.length 0 (es.map D.t++ys).length,H1++[.arr sz false 0 (es.map .t++ys)])else none
  | .q id ep es=>(match ys with
    | [.t y]=>if y.scalar=true∧sz=1∧ER H1 id ep=true∧es.length+1≤lim then some (.q id (ep+1) (es++[y]),H1.set id (.own (ep+1)))else none
    | _=>none)
  | _=>none
 else none
def Xw(H:af)(id ep:Nat)(a:Nat×Bool×List D)(lo hi:Nat)(ys:List D)(sz:Nat):Option (D×af):=
 if min ys.length (hi-lo)=0 then some (.t (.int .i64 0),H)
 else if a.2.1=false∧a.1=sz then
  some (.t (.int .i64 ((min ys.length (hi-lo):Nat):Int)),H.set id (.arr sz false ep (a.2.2.take lo++ys.take (min ys.length (hi-lo))++a.2.2.drop (lo+min ys.length (hi-lo)))))
 else none
def ES(H:af)(x y:D)(sz:Nat):Option (D×af):=
 (elems H y).bind fun ys=>if cD sz ys then match x with
  | .ref id ep n=>(fV H id ep n).bind fun a=>Xw H id ep a 0 n ys sz
  | .sub id ep n lo hi=>(fV H id ep n).bind fun a=>Xw H id ep a lo hi ys sz
  | _=>none
 else none
def aeJ(H:af)(id ep:Nat)(a:Nat×Bool×List D)(lo hi:Nat)(zero:T)(sz:Nat):Option (D×af):=
 if hi-lo=0 then some (.tup [],H)
 else if a.2.1=false∧a.1=sz then some (.tup [],H.set id (.arr sz false ep (a.2.2.take lo++List.replicate (hi-lo) (.t zero)++a.2.2.drop (lo+(hi-lo)))))
 else none
def PF(H:af)(x:D)(zero:T)(sz:Nat):Option (D×af):=match x with
 | .ref id ep n=>(fV H id ep n).bind fun a=>aeJ H id ep a 0 n zero sz
 | .sub id ep n lo hi=>(fV H id ep n).bind fun a=>aeJ H id ep a lo hi zero sz
 | _=>none
def byteOf:T→Option UInt8
 | .int .u8 n=>some (UInt8.ofNat n.toNat)
 | _=>none
def PG:D→Option D
 | .t (.sl es)=>(cK byteOf es).map fun bs=> .t (.str ⟨bs.toArray⟩)
 | .nil=>some (.t (.str ⟨#[]⟩))
 | _=>none
def ak2(neg:Bool):D→Option D
 | .fn _ _=>some (.t (.bool neg))
 | _=>none
def bound(d:Nat):Option Int→Option Nat
 | none=>some d
 | some n=>idx n
def rB(H:af)(x:D)(lo hi:Option Int)(sz:Nat):Option D:=
 (bound 0 lo).bind fun l=>match x with
 | .t (.sl es)=>(bound es.length hi).bind fun h=>if l≤h∧h≤es.length∧(es.all fun e=>e.cells.length==sz)then some (.t (.sl ((es.drop l).take (h-l))))else none
 | .nil=>(bound 0 hi).bind fun h=>if l≤h∧h≤0 then some .nil else none
 | .ref id ep n=>(bound n hi).bind fun h=>(fV H id ep n).bind fun a=>if l≤h∧h≤n∧a.1=sz then some (.sub id ep n l h)else none
 | .sub id ep n l0 h0=>(bound (h0-l0) hi).bind fun h=>(fV H id ep n).bind fun a=>if l≤h∧h≤h0-l0∧h0≤n∧a.1=sz then some (.sub id ep n (l0+l) (l0+h))else none
 | .q id ep es=>(bound es.length hi).bind fun h=>if ER H id ep=true∧l≤es.length∧h=es.length∧sz=1 then some (.q id ep (es.drop l))else none
 | _=>none
def Xx(x:D)(h m:Int):Option D:=match x with
 | .t (.sl es)=>if h=es.length∧m=es.length then some (.cl es)else none
 | .nil=>if h=0∧m=0 then some .nil else none
 | _=>none
def aeK(H:af)(x:D)(hi:Int):Option (D×af):=match x with
 | .ref id ep n=>(idx hi).bind fun h=>(fV H id ep n).bind fun a=>if h≤n∧a.2.1=false then
  some (.ref id (ep+1) h,H.set id (.arr a.1 false (ep+1) (a.2.2.take h)))else none
 | _=>none
def aiA:D→Option Nat
 | .t (.sl es)=>some es.length
 | .nil=>some 0
 | .ref _ _ n=>some n
 | .sub _ _ _ lo hi=>some (hi-lo)
 | .q _ _ es=>some es.length
 | _=>none
def ET(f:Int→Int→Int):D→List D→Option D
 | .t (.int k a),.t (.int j b)::r=>if j=k then ET f (.t (.int k (f a b))) r else none
 | .t (.int k a),[]=>some (.t (.int k a))
 | _,_=>none
def aeL:List D→Option D
 | []=>none
 | d::r=>ET (fun a b=>if b<a then b else a) d r
def aeM:List D→Option D
 | []=>none
 | d::r=>ET (fun a b=>if a<b then b else a) d r
def xX(H:af)(d:D):Option D:=match d with
 | .t x=>some (.t x)
 | .nil=>some (.t (.sl []))
 | .agg cs=>(frz H depth (.agg cs)).map .t
 | .ref id ep n=>(frz H depth (.ref id ep n)).map .t
 | .sub id ep n lo hi=>(frz H depth (.sub id ep n lo hi)).map .t
 | d=>some d
def tz(H:af)(keep:List Nat):Nat→List D→Option (List D)
 | _,[]=>some []
 | i,d::r=>(if keep.contains i then some d else xX H d).bind fun x=>(tz H keep (i+1) r).map (x:: ·)
def dg(H:af)(keep:List Nat):Nat→List D→List Nat
 | _,[]=>[]
 | i,d::r=>(if keep.contains i then []else gu H depth d)++dg H keep (i+1) r
def idxOf(sel:List Nat)(i:Nat):Option Nat:=match sel with
 | []=>none
 | j::r=>if j=i then some 0 else(idxOf r i).map (· +1)
def pick(H:af):List Nat→Option af
 | []=>some []
 | i::r=>H[i]?.bind fun o=>(pick H r).map (o:: ·)
def dH{α:Type}(H:List α):List Nat→List α→List α
 | i::r,o::os=>dH (H.set i o) r os
 | _,_=>H
abbrev aU:=Nat→Nat→List D→af→Option (D×af)
def fO(sel:List Nat)(n i:Nat):Option Nat:=if i<sel.length then sel[i]? else some (n+(i-sel.length))
def yL(call:aU)(H:af)(f raw:Nat)(keep:List Nat)(ds:List D):Option (D×af):=
 (tz H keep 0 ds).bind fun args=>
 let sel:=reach H 3 (ir [] (args.flatMap (ids depth)))
 let H1:=pins H (dg H keep 0 ds)
 (cK (ren (idxOf sel) depth) args).bind fun args'=>(pick H1 sel).bind fun hs=>(cK (jB (idxOf sel)) hs).bind fun hs'=>
 (call raw f args' hs').bind fun p=>
 if sel.isEmpty&&p.2.isEmpty&&tx p.1 then some (p.1,H)
 else
  (ren (fO sel H.length) depth p.1).bind fun r'=>(cK (jB (fO sel H.length)) p.2).map fun os=>
   (r',dH H1 sel (os.take sel.length)++os.drop sel.length)
structure St where
 vs:List D
 H:af
 deriving Inhabited
def X.get(vs:List D)(L:List D):X→Option D
 | .v j=>vs[j]?
 | .l k=>L[k]?
 | .c d=>some d
 | .i n=>some (.t (.int .i64 n))
 | .b x=>some (.t (.bool x))
def qu(get:X→Option D):List (Nat×Nat×X)→Option (List (Nat×Nat×D))
 | []=>some []
 | (off,n,x)::r=>(get x).bind fun d=>(qu get r).map ((off,n,d):: ·)
def NA(get:X→Option D):Option X→Option (Option Int)
 | none=>some none
 | some x=>((get x).bind intOf).map some
def cq(base:Nat)(cs:List D):List (Nat×Nat)→List D×af
 | []=>(cs,[])
 | (off,sz)::r=>
   match cs[off]? with
   | some .nil=>
     let p:=cq (base+1) (cs.set off (.ref base 0 0)) r
     (p.1,.arr sz false 0 []::p.2)
   | _=>cq base cs r
def tA(H:af)(p:D)(live:List (Nat×Nat)):Option af:=match live with
 | []=>some H
 | _=>match p with
   | .bp id _=>match H[id]? with
     | some (.box cs)=>let p:=cq H.length cs live;some (H.set id (.box p.1)++p.2)
     | _=>none
   | _=>none
def TC(c a b:D):Option D:=match c with
 | .t (.bool x)=>some (if x then a else b)
 | _=>none
def Xy(k:IntKind):D→Option D
 | .t (.int _ n)=>some (.t (.int k (k.wrap n)))
 | _=>none
def aiB:D→Option D
 | .bp id off=>some (.bp id off)
 | .ap id ep n i off=>some (.ap id ep n i off)
 | .ep cs=>some (.ep cs)
 | _=>none
def yM(a:D)(off n:Nat)(agg:Bool):Option D:=if a.isAgg then(cut a.cells off n).bind (fU agg)else none
def FU(a:D)(j len sz:Nat)(agg:Bool):Option D:=
 if len=0 then match a with
  | .t (.str s)=>s[j]?.map fun(b:UInt8)=> .t (.int .u8 b.toNat)
  | _=>none
 else if j<len then yM a (j*sz) sz agg else none
def aeN(i:Nat):D→Option D
 | .tup ds=>ds[i]?
 | _=>none
def blk(sz c:Nat)(A:Nat→List T):af:=(List.range c).map fun j=> .arr sz false 0 ((A j).map .t)
def refs(b m:Nat)(L:Nat→Nat):List D:=(List.range m).map fun j=> .ref (j+b) 0 (L j)
def evO(call:aU)(get:X→Option D)(H:af):O→Option (D×af)
 | .mv x=>(get x).map fun d=>(d,H)
 | .pk c a b=>(get c).bind fun c=>(get a).bind fun a=>(get b).bind fun b=>(TC c a b).map fun d=>(d,H)
 | .bin f x y=>(get x).bind fun a=>(get y).bind fun b=>(FT f a b).map fun d=>(d,H)
 | .eqk q neg x y=>(get x).bind fun a=>(get y).bind fun b=>(VL q neg a b).map fun d=>(d,H)
 | .un f x=>(get x).bind fun a=>(unD f a).map fun d=>(d,H)
 | .cv k x=>(get x).bind fun a=>(Xy k a).map fun d=>(d,H)
 | .nc x=>(get x).bind fun a=>(aiB a).map fun d=>(d,H)
 | .fa x off=>(get x).bind fun a=>(Nz a off).map fun d=>(d,H)
 | .fl x off n agg=>(get x).bind fun a=>(yM a off n agg).map fun d=>(d,H)
 | .ia x i sz=>(get x).bind fun a=>((get i).bind intOf).bind fun n=>(GK H a n sz).map fun d=>(d,H)
 | .iaa x i len sz=>(get x).bind fun a=>((get i).bind intOf).bind fun n=>(idx n).bind fun j=>if j<len then(Nz a (j*sz)).map fun d=>(d,H)else none
 | .ix x i len sz agg=>(get x).bind fun a=>((get i).bind intOf).bind fun n=>(idx n).bind fun j=>(FU a j len sz agg).map fun d=>(d,H)
 | .bd zero parts=>(qu get parts).bind fun ps=>(yK zero ps).map fun cs=>(xa cs,H)
 | .bs xs sz=>(cK get xs).bind fun ds=>if ds.all (fun d=>d.cells.length==sz)then(cK (frz H depth) ds).map fun ts=>(.t (.sl ts),pins H (ds.flatMap (gu H depth)))else none
 | .bsr xs sz=>(cK get xs).bind fun ds=>if ds.all (fun d=>d.cells.length==sz&&d.lO)then some (.ref H.length 0 ds.length,H++[.arr sz false 0 ds])else none
 | .bsq x=>(get x).bind fun
   | .t y=>if y.scalar then some (.q H.length 0 [y],H++[.own 0])else none
   | _=>none
 | .ld x n agg=>(get x).bind fun a=>(Ak H a n agg).map fun d=>(d,H)
 | .st a x n live=>(get a).bind fun p=>(get x).bind fun d=>(Bl H p d n).bind fun H'=>(tA H' p live).map fun H''=>(.tup [],H'')
 | .ln x=>(get x).bind fun a=>(aiA a).map fun(n:Nat)=>(D.t (.int .i64 (n:Int)),H)
 | .mn xs=>(cK get xs).bind fun ds=>(aeL ds).map fun d=>(d,H)
 | .mx xs=>(cK get xs).bind fun ds=>(aeM ds).map fun d=>(d,H)
 | .sc x lo hi sz=>(get x).bind fun a=>(NA get lo).bind fun l=>(NA get hi).bind fun h=>(rB H a l h sz).map fun d=>(d,H)
 | .s3 x hi mx=>(get x).bind fun a=>((get hi).bind intOf).bind fun h=>((get mx).bind intOf).bind fun m=>(Xx a h m).map fun d=>(d,H)
 | .pop x hi=>(get x).bind fun a=>((get hi).bind intOf).bind fun h=>aeK H a h
 | .ex x i=>(get x).bind fun a=>(aeN i a).map fun d=>(d,H)
 | .mf f caps=>(cK get caps).map fun ds=>(.fn f ds,H)
 | .ca f raw keep xs=>(cK get xs).bind fun ds=>yL call H f raw keep ds
 | .cw x raw keep xs=>(get x).bind fun
  | .fn f caps=>(cK get xs).bind fun ds=>yL call H f raw keep (ds++caps)
  | _=>none
 | .app x y fz sz=>(get x).bind fun a=>(get y).bind fun b=>pZ H a b fz sz
 | .cp x y sz=>(get x).bind fun a=>(get y).bind fun b=>ES H a b sz
 | .clr x zero sz=>(get x).bind fun a=>PF H a zero sz
 | .bst x=>(get x).bind fun a=>(PG a).map fun d=>(d,H)
 | .fnz neg x=>(get x).bind fun a=>(ak2 neg a).map fun d=>(d,H)
 | .mk len zero sz=>((get len).bind intOf).bind fun n=>(idx n).bind fun m=>if m≤lim then
  some (.ref H.length 0 m,H++[.arr sz false 0 (List.replicate m zero)])else none
 | .mkt len zero _=>((get len).bind intOf).bind fun n=>(idx n).bind fun m=>if m≤lim then some (.t (.sl (List.replicate m zero)),H)else none
 | .mkn len zero sz=>((get len).bind intOf).bind fun n=>(idx n).bind fun m=>if m≤lim∧0<m then
  some (.ref H.length 0 m,H++[.arr sz false 0 (List.replicate m (.t zero))])else none
 | .mkw len c esz=>((get len).bind intOf).bind fun n=>(idx n).bind fun m=>if m≤c∧c≤64 then
  some (.ref (H.length+c) 0 m,H++blk esz c (fun _=>[])++[.arr 1 false 0 (refs H.length m fun _=>0)])else none
 | .al zero live=>let p:=cq (H.length+1) zero live;some (.bp H.length 0,H++ .box p.1::p.2)
 | .bx x n=>(get x).bind fun a=>if a.cells.length=n∧a.lO then some (.bp H.length 0,H++[.box a.cells])else none
 | .nw sz=>some (.ref H.length 0 0,H++[.arr sz false 0 []])
def cP(L:List D):Option (Nat×Bool)→Option Bool
 | none=>some true
 | some (k,w)=>L[k]?.bind fun
   | .t (.bool b)=>some (b==w)
   | .tup []=>some false
   | _=>none
def wr(vs:List D)(d:Option Nat)(x:D):List D:=match d with
 | some s=>vs.set s x
 | none=>vs
def evR(call:aU):List R→List D→List D→af→Option (List D×List D×af)
 | [],L,vs,H=>some (L,vs,H)
 | r::rs,L,vs,H=>(cP L r.g).bind fun w=>
   if w then(evO call (X.get vs L) H r.o).bind fun p=>evR call rs (p.1::L) (wr vs r.d p.1) p.2
   else evR call rs (.tup []::L) (wr vs r.d (.tup [])) H
def trace(call:aU):List R→List D→List D→af→List (List D×List D×af)
 | [],L,vs,H=>[(L,vs,H)]
 | r::rs,L,vs,H=>(L,vs,H)::match cP L r.g with
   | some true=>(match evO call (X.get vs L) H r.o with
     | some p=>trace call rs (p.1::L) (wr vs r.d p.1) p.2
     | none=>[])
   | some false=>trace call rs (.tup []::L) (wr vs r.d (.tup [])) H
   | none=>[]
def B9(get:X→Option D)(H:af):O→Option D
 | .ld x n agg=>(get x).bind fun a=>Ak H a n agg
 | .ia x i sz=>(get x).bind fun a=>((get i).bind intOf).bind fun n=>GK H a n sz
 | .sc x lo hi sz=>(get x).bind fun a=>(NA get lo).bind fun l=>(NA get hi).bind fun h=>rB H a l h sz
 | .mkt len zero _=>((get len).bind intOf).bind fun n=>(idx n).bind fun m=>if m≤lim then some (.t (.sl (List.replicate m zero)))else none
 | .bs xs sz=>(cK get xs).bind fun ds=>if ds.all (fun d=>d.cells.length==sz)&&(ds.flatMap (gu H depth)).isEmpty then(cK (frz H depth) ds).map fun ts=> .t (.sl ts)else none
 | _=>none
open Classical in
noncomputable def steady(tr:List (List D×List D×af))(rs:List R)(p:Nat×Nat):Bool:=
 match tr[p.1]?,rs[p.1]?,tr[p.2]?,tr[p.1+1]? with
 | some s,some r,some a,some s'=>(match r.o with
   | .al _ _=>decide (a.2.2[s.2.2.length]?=s'.2.2[s.2.2.length]?)
   | o=>(cP s.1 r.g==some false)||
     (decide (B9 (X.get s.2.1 s.1) a.2.2 o=B9 (X.get s.2.1 s.1) s.2.2 o)&&(B9 (X.get s.2.1 s.1) s.2.2 o).isSome))
 | _,_,_,_=>false
noncomputable def xb(call:aU)(rs:List R)(ps:List (Nat×Nat))(vs:List D)(H:af):Option (List D×List D×af):=
 if ps.isEmpty||ps.all (steady (trace call rs [] vs H) rs)then evR call rs [] vs H else none
def old(n:Nat):Nat→D→Bool
 | _,.t _=>true
 | _,.nil=>true
 | _,.ep _=>true
 | _,.nilp=>true
 | _,.und=>true
 | _,.ub=>true
 | _,.cl _=>true
 | _,.bp id _=>decide (id<n)
 | _,.ap id _ _ _ _=>decide (id<n)
 | _,.ref id _ _=>decide (id<n)
 | _,.sub id _ _ _ _=>decide (id<n)
 | _,.q id _ _=>decide (id<n)
 | k+1,.agg cs=>cs.all (old n k)
 | k+1,.tup cs=>cs.all (old n k)
 | k+1,.fn _ cs=>cs.all (old n k)
 | 0,_=>false
def kill(n:Nat)(d:D):D:=if old n depth d then d else .und
def NB(n:Nat)(st:St):Option St:=
 if(st.H.take n).all (fun o=>o.ds.all (old n depth))then some ⟨st.vs.map (kill n),st.H.take n⟩else none
def jg(dead:List Nat)(vs:List D):List D:=match dead with
 | []=>vs
 | i::r=>jg r (vs.set i .und)
def tidy(gc:Bool)(dead:List Nat)(k:Nat)(st:St):Option St:=
 if gc then NB k ⟨jg dead st.vs,st.H⟩else some ⟨jg dead st.vs,st.H⟩
def iter(gc:Bool)(dead:List Nat)(body:St→Option (Ex×St)):Nat→St→Option (Ex×St)
 | 0,_=>none
 | n+1,st=>(body st).bind fun p=>match p.1 with
   | .normal=>(tidy gc dead st.H.length p.2).bind (iter gc dead body n)
   | _=>some p
def jC(p:Ex×St)(k:St→Option (Ex×St)):Option (Ex×St):=match p.1 with
 | .normal=>k p.2
 | _=>some p
open Classical in
noncomputable def jh(c:Option D)(a b:Option (Ex×St)):Option (Ex×St):=match c with
 | some (.t (.bool x))=>if x then a else b
 | some .ub=>if a=b then a else none
 | _=>none
def leave(id:Nat)(p:Ex×St):Ex×St:=if p.1= .exit id then(.normal,p.2)else p
def abL:T→Bool
 | .int _ _=>true
 | _=>false
def SM(f:Nat)(d:Option D)(H:af):Option (List T):=match d with
 | some (.fn f' [.bp s 0,.bp n 0])=>if f=f' then(match H[s]?,H[n]? with
   | some (.box [.t (.sl es)]),some (.box [.t (.int .i64 m)])=>if m=2∧es.length % 2=0∧es.length≤1000000∧es.all abL=true then some es else none
   | _,_=>none)else none
 | _=>none
def Kj(step:T→af→Option af)(look:af→Option (List T))(len:Nat):Nat→Nat→af→Option af
 | 0,_,H=>(look H).bind fun es=>if es.length=len then some H else none
 | k+1,i,H=>(look H).bind fun es=>if es.length=len then(step (.sl ((es.drop i).take 2)) H).bind (Kj step look len k (i+2))else none
def O3(step:T→af→Option af)(look:af→Option (List T))(H:af):Option af:=(look H).bind fun es=>Kj step look es.length (es.length / 2) 0 H
def stepG(ev:List R→List (Nat×Nat)→List D→af→Option (List D×List D×af))(vs:List D)(p:Nat)(r1:List R)(p1:List (Nat×Nat))(r2:List R)(p2:List (Nat×Nat))(c:T)(H:af):Option af:=
 (ev r1 p1 (vs.set p (.t c)) H).bind fun q=>(ev r2 p2 q.2.1 q.2.2).map fun q=>q.2.2
theorem Al{ev ev':List R→List (Nat×Nat)→List D→af→Option (List D×List D×af)}(h:∀rs ps vs H r,ev rs ps vs H=some r→ev' rs ps vs H=some r){vs:List D}{p:Nat}{r1:List R}{p1:List (Nat×Nat)}{r2:List R}{p2:List (Nat×Nat)}
 (c:T) (H H':af) (hs:stepG ev vs p r1 p1 r2 p2 c H=some H'):stepG ev' vs p r1 p1 r2 p2 c H=some H':=by
 unfold stepG at hs ⊢
 obtain⟨q,hq,hs⟩:=aLa.1 hs
 obtain⟨q',hq',rfl⟩:=aLb.1 hs
 rw[h _ _ _ _ _ hq,aLq,h _ _ _ _ _ hq'];rfl
theorem Ix{step step':T→af→Option af}{look:af→Option (List T)}{len:Nat}(h:∀c H H',step c H=some H'→step' c H=some H'):∀ {k i:Nat} {H H':af},
 Kj step look len k i H=some H'→Kj step' look len k i H=some H'
 | 0,i,H,H',hr=>hr
 | k+1,i,H,H',hr=>by
   unfold Kj at hr ⊢
   obtain⟨es,he,hr⟩:=aLa.1 hr
   rw[he,aLq]
   split at hr
   · rename_i hl
     obtain⟨H1,h1,hr⟩:=aLa.1 hr
     rw[if_pos hl,h _ _ _ h1,aLq]
     exact Ix h hr
   · cases hr
theorem CZ{step step':T→af→Option af}{look:af→Option (List T)}(h:∀c H H',step c H=some H'→step' c H=some H'){H H':af}(hr:O3 step look H=some H'):O3 step' look H=some H':=by
 unfold O3 at hr ⊢
 obtain⟨es,he,hr⟩:=aLa.1 hr
 rw[he,aLq];exact Ix h hr
noncomputable def evC(call:aU)(fuel:Nat):C→St→Option (Ex×St)
 | .skip,st=>some (.normal,st)
 | .reg rs ps,st=>(xb call rs ps st.vs st.H).map fun q=>(.normal,⟨q.2.1,q.2.2⟩)
 | .seq a b,st=>(evC call fuel a st).bind fun p=>jC p (evC call fuel b)
 | .ite rs ps k a b,st=>(xb call rs ps st.vs st.H).bind fun q=>
  jh q.1[k]? (evC call fuel a ⟨q.2.1,q.2.2⟩) (evC call fuel b ⟨q.2.1,q.2.2⟩)
 | .its rs ps k a b c,st=>((xb call rs ps st.vs st.H).bind fun q=>
  jh q.1[k]? (evC call fuel a ⟨q.2.1,q.2.2⟩) (evC call fuel b ⟨q.2.1,q.2.2⟩)).bind fun p=>jC p (evC call fuel c)
 | .itk rs ps k a b c,st=>(xb call rs ps st.vs st.H).bind fun q=>
  jh q.1[k]? ((evC call fuel a ⟨q.2.1,q.2.2⟩).bind fun p=>jC p (evC call fuel c)) ((evC call fuel b ⟨q.2.1,q.2.2⟩).bind fun p=>jC p (evC call fuel c))
 | .itv j a b,st=>jh st.vs[j]? (evC call fuel a st) (evC call fuel b st)
 | .blk id c,st=>(evC call fuel c st).map (leave id)
 | .loop gc dead c,st=>iter gc dead (evC call fuel c) fuel ⟨jg dead st.vs,st.H⟩
 | .exit id,st=>some (.exit id,st)
 | .ret,st=>some (.ret,st)
 | .fail,_=>none
 | .cnd _ c,st=>evC call fuel c st
 | .rng x p f r1 p1 r2 p2,st=>(O3 (stepG (xb call) st.vs p r1 p1 r2 p2) (SM f st.vs[x]?) st.H).map fun H=>(.normal,⟨st.vs,H⟩)
def mG(st:St):List (Nat×Option (Nat×Bool))→Option (List D)
 | []=>some []
 | (j,none)::r=>st.vs[j]?.bind fun d=>(mG st r).map (d:: ·)
 | (j,some (n,agg))::r=>st.vs[j]?.bind fun p=>(Ak st.H p n agg).bind fun d=>(mG st r).map (d:: ·)
def fA(H:af)(o:Obj):Option Obj:=match o with
 | .arr sz pin ep es=>(cK (fun d=>(frz H depth d).map .t) es).map (.arr sz pin ep)
 | .box cs=>(cK (xX H) cs).map .box
 | .own _=>none
def rC(H:af):Nat→List Nat→List Nat→Option (List Nat×af)
 | 0,_,_=>some ([],[])
 | n+1,sel,front=>
   let new:=(ir sel front).drop sel.length
   (pick H new).bind fun os=>(if n=0 then(if(os.flatMap fun o=>o.ds.flatMap (gu H depth)).all (fun i=> !(sel++new).contains i)then cK (fA H) os else none)else some os).bind fun os'=>
   (rC H n (sel++new) (vu H new)).map fun q=>(new++q.1,os'++q.2)
def Ca(ds:List D):D:=match ds with
 | [d]=>d
 | ds=> .tup ds
def m0(H:af)(raw:Nat)(ds:List D):List Nat:=if raw=0 then ds.flatMap (gu H depth)else []
def finish(k raw:Nat)(H:af)(ds:List D):Option (D×af):=
 (if raw=0 then cK (xX H) ds else some ds).bind fun rs=>
  if rs.all (old k depth)&&(H.take k).all (fun o=>o.ds.all (old k depth))then
   if(m0 H raw ds).all (fun i=>decide (k≤i))then some (Ca rs,H.take k)else none
  else
   (rC H (max raw 1) (List.range k) (rs.flatMap (ids depth)++vu H (List.range k))).bind fun q=>
   if(m0 H raw ds).all (fun i=> !(List.range k++q.1).contains i)then
    (cK (ren (idxOf (List.range k++q.1)) depth) rs).bind fun rs'=>
     (cK (jB (idxOf (List.range k++q.1))) (H.take k++q.2)).map fun hs'=>(Ca rs',hs')
   else none
def xj(args:List D)(vars:List Nat):List D:=vars.map fun s=>args.getD s .und
def LZ:D→Option Int
 | .t (.int .i64 n)=>some n
 | _=>none
def GL:T→Option (List Int)
 | .sl es=>cK (fun x=>match x with | .int .i64 n=>some n | _=>none) es
 | _=>none
def Xz(x:Int):List Int→List Int
 | []=>[x]
 | y::r=>if x≤y then x::y::r else y::Xz x r
def oS:List Int→List Int
 | []=>[]
 | x::r=>Xz x (oS r)
def PH:T→Bool
 | .agg [_,_]=>true
 | _=>false
def GM(k:List Nat)(args:List D)(H:af):Option (D×af):=match k with
 | [1]=>match args with
   | [.ref id ep n]=>match H[id]? with
     | some (.arr 1 false ep' es)=>if ep=ep'∧n=es.length∧n≤lim then(cK LZ es).map fun l=>(.tup [],H.set id (.arr 1 false ep' ((oS l).map fun x=> .t (.int .i64 x))))else none
     | _=>none
   | [.nil]=>some (.tup [],H)
   | _=>none
 | [2,f]=>match args with
   | [.fn f' [.bp id 0]]=>if f=f' then match H[id]? with
    | some (.box [d])=>(xX H d).bind fun a=>match a with
      | .t x=>(GL x).bind fun l=>if l.length≤lim then some (.t (.sl ((oS l).map (T.int .i64))),H)else none
      | _=>none
    | _=>none
    else none
   | _=>none
 | [3,f]=>match args with
   | [.fn f' [.bp id 0]]=>if f=f' then match H[id]? with
    | some (.box [.t (.sl es)])=>if es.length≤lim∧es.all PH then
     (if es.isEmpty then some (.nil,H)else some (.ref H.length 0 es.length,H++[.arr 2 false 0 (es.map .t)]))else none
    | _=>none
    else none
   | _=>none
 | [4]=>match args with
   | [.nil,.t (.int .i64 n)]=>if 0≤n∧n≤4294967296 then some (.ref H.length 0 0,H++[.arr 1 false 0 []])else none
   | _=>none
 | [5,f]=>match args with
   | [.fn f' [.bp id 0]]=>if f=f' then match H[id]? with
    | some (.box [d])=>(xX H d).bind fun a=>match a with
      | .t x=>(GL x).bind fun l=>if l.length≤lim then
       (if l.isEmpty then some (.nil,H)else some (.ref H.length 0 l.length,H++[.arr 1 false 0 ((oS l).map fun x=> .t (.int .i64 x))]))else none
      | _=>none
    | _=>none
    else none
   | _=>none
 | 6::fs=>match args with
   | [.t (.int .i64 n)]=>if 1≤n then(fs[(n-1).toNat]?).map fun f=>(.fn f [],H)else none
   | _=>none
 | _=>none
noncomputable def eO(fs:Nat→Option Fn):Nat→aU
 | 0,_,_,_,_=>none
 | n+1,raw,f,args,H=>(fs f).bind fun fn=>if fn.prim≠[]then GM fn.prim args H else if fn.aq=args.length then
  (evC (eO fs n) n fn.body ⟨xj args fn.vars,H⟩).bind fun p=>match p.1 with
   | .exit _=>none
   | _=>(mG p.2 fn.res).bind (finish H.length raw p.2.H)
  else none
end Go.Ev
namespace Go.Ev
open Go
abbrev Fz:=Nat→Nat→Option Value
structure OG where
 blk:Option Nat
 cap:Nat
abbrev Gh:=List OG
def fM:Value→Bool
 | .agg _=>false
 | .tuple _=>false
 | _=>true
inductive lP(F:Fz):Value→T→Prop
 | int (k:IntKind) (n:Int):lP F (.int k n) (.int k n)
 | bool (b:Bool):lP F (.bool b) (.bool b)
 | str (s:ByteArray):lP F (.string s) (.str s)
 | agg (vs:List Value) (cs:List T) (hl:vs.length=cs.length) (hv:∀v∈vs,fM v=true)
  (h:∀(i:Nat) v c,vs[i]?=some v→cs[i]?=some c→lP F v c):lP F (.agg vs.toArray) (.agg cs)
 | sl0 (a:Option Addr) (cap:Nat):lP F (.slice a 0 cap) (.sl [])
 | sl (b off cap sz:Nat) (es:List T) (cv:Nat→Nat→Value) (hcap:es.length≤cap) (hsz:∀e∈es,e.cells.length=sz)
  (hF:∀(i:Nat) e (k:Nat) c,es[i]?=some e→e.cells[k]?=some c→F b (off+i*sz+k)=some (cv i k)∧fM (cv i k)=true)
  (h:∀(i:Nat) e (k:Nat) c,es[i]?=some e→e.cells[k]?=some c→lP F (cv i k) c):
  lP F (.slice (some ⟨b,off,none⟩) es.length cap) (.sl es)
inductive Sh where
 | box
 | arr (sz ep n:Nat)
 | own (ep:Nat)
def Obj.sh:Obj→Sh
 | .box _=> .box
 | .arr sz _ ep es=> .arr sz ep es.length
 | .own ep=> .own ep
def shp(H:af)(id:Nat):Option Sh:=H[id]?.map Obj.sh
def room(e s:Nat):Nat:=e+s*1208925819614629174706176
def dE(og:OG)(n:Nat):Value:=match og.blk with
 | none=> .slice none 0 0
 | some b=> .slice (some ⟨b,0,none⟩) n og.cap
def L0(ep n ep' n':Nat):Prop:=ep<ep'∨(ep=ep'∧n<n')
class Names where
 ρ:Nat→Option Nat
 /-- The functions that are the inner one of slices.Chunk. -/
 it:Nat→Bool:=fun _=>false
variable [Names]
inductive bF(F:Fz)(g:Gh)(S:Nat→Option Sh):Value→D→Prop
 | t (v:Value) (x:T) (h:lP F v x):bF F g S v (.t x)
 | nil:bF F g S (.slice none 0 0) .nil
 | agg (vs:List Value) (cs:List D) (hl:vs.length=cs.length) (hv:∀v∈vs,fM v=true)
  (h:∀(i:Nat) v c,vs[i]?=some v→cs[i]?=some c→bF F g S v c):bF F g S (.agg vs.toArray) (.agg cs)
 | bp (id off b c:Nat) (hg:g[id]?=some ⟨some b,c⟩) (hs:S id=some .box):bF F g S (.pointer (some ⟨b,off,none⟩)) (.bp id off)
 | ap (id ep n i off sz b c:Nat) (hg:g[id]?=some ⟨some b,c⟩) (hs:S id=some (.arr sz ep n)):
  bF F g S (.pointer (some ⟨b,i*sz+off,none⟩)) (.ap id ep n i off)
 | apOld (a:Addr) (id ep n i off sz ep' n':Nat) (hs:S id=some (.arr sz ep' n')) (hp:L0 ep n ep' n'):bF F g S (.pointer (some a)) (.ap id ep n i off)
 | ep (cs:List T) (b off:Nat) (cv:Nat→Value)
  (hF:∀(k:Nat) c,cs[k]?=some c→F b (off+k)=some (cv k)∧fM (cv k)=true)
  (h:∀(k:Nat) c,cs[k]?=some c→lP F (cv k) c):bF F g S (.pointer (some ⟨b,off,none⟩)) (.ep cs)
 | ref (id ep n sz:Nat) (og:OG) (hg:g[id]?=some og) (hs:S id=some (.arr sz ep n)) (hn:og.blk=none→n=0):bF F g S (dE og n) (.ref id ep n)
 | refOld (a:Option Addr) (c id ep n sz ep' n':Nat) (hs:S id=some (.arr sz ep' n')) (hp:L0 ep n ep' n') (hn:a=none→n=0):bF F g S (.slice a n c) (.ref id ep n)
 | sub (id ep n lo hi sz b c cap':Nat) (a:Nat) (hg:g[id]?=some ⟨some b,c⟩) (hs:S id=some (.arr sz ep n)) (hlt:lo<hi) (hn:hi≤n) (ha:a=lo*sz) (hcap:hi-lo≤cap'):
  bF F g S (.slice (some ⟨b,a,none⟩) (hi-lo) cap') (.sub id ep n lo hi)
 | sub0 (a:Option Addr) (id ep n lo hi cap' sz ep' n':Nat) (hs:S id=some (.arr sz ep' n')) (he:hi≤lo):bF F g S (.slice a 0 cap') (.sub id ep n lo hi)
 | subOld (a:Option Addr) (c id ep n lo hi sz ep' n':Nat) (hs:S id=some (.arr sz ep' n')) (hp:L0 ep n ep' n'):bF F g S (.slice a (hi-lo) c) (.sub id ep n lo hi)
 | fn (f j:Nat) (hj:Names.ρ f=some j) (vs:List Value) (cs:List D) (hl:vs.length=cs.length)
  (h:∀(i:Nat) v c,vs[i]?=some v→cs[i]?=some c→bF F g S v c):bF F g S (.func (.func j) #[] vs.toArray) (.fn f cs)
 | tup (vs:List Value) (cs:List D) (hl:vs.length=cs.length)
  (h:∀(i:Nat) v c,vs[i]?=some v→cs[i]?=some c→bF F g S v c):bF F g S (.tuple vs.toArray) (.tup cs)
 | nilp:bF F g S (.pointer none) .nilp
 | und (v:Value):bF F g S v .und
 | ub (b:Bool):bF F g S (.bool b) .ub
 | cl (a:Option Addr) (es:List T) (h:lP F (.slice a es.length es.length) (.sl es)):bF F g S (.slice a es.length es.length) (.cl es)
 | q (id ep b off cap:Nat) (es:List T) (hg:g[id]?=some ⟨some b,room (off+es.length) (off+cap)⟩) (hs:S id=some (.own ep)) (hb:off+cap≤9223372036854775807) (hl:es.length≤cap)
  (h:lP F (.slice (some ⟨b,off,none⟩) es.length cap) (.sl es)) (hz:∀e∈es,e.cells.length=1):bF F g S (.slice (some ⟨b,off,none⟩) es.length cap) (.q id ep es)
 | q0 (a:Option Addr) (id ep:Nat) (hs:S id=some (.own ep)):bF F g S (.slice a 0 0) (.q id ep [])
 | qOld (a:Option Addr) (c id ep:Nat) (es:List T) (ep':Nat) (hs:S id=some (.own ep')) (hp:ep<ep'):bF F g S (.slice a es.length c) (.q id ep es)
def mS(F F':Fz):Prop:=∀b o v,F b o=some v→F' b o=some v
theorem mS.refl(F:Fz):mS F F:=fun _ _ _ h=>h
theorem mS.trans{F G K:Fz}(h:mS F G)(h':mS G K):mS F K:=fun b o v hv=>h' b o v (h b o v hv)
theorem lP.mono{F F':Fz}(hs:mS F F'){v:Value}{x:T}(h:lP F v x):lP F' v x:=by
 induction h with
 | int k n=>exact .int k n
 | bool b=>exact .bool b
 | str s=>exact .str s
 | agg vs cs hl hv _ ih=>exact .agg vs cs hl hv ih
 | sl0 a cap=>exact .sl0 a cap
 | sl b off cap sz es cv hcap hsz hF _ ih=>exact .sl b off cap sz es cv hcap hsz (fun i e k c he hc=>⟨hs _ _ _ (hF i e k c he hc).1,(hF i e k c he hc).2⟩) ih
structure rm(f:Nat→Option Nat)(g:Gh)(S:Nat→Option Sh)(g':Gh)(S':Nat→Option Sh):Prop where
 box:∀id j,f id=some j→S id=some .box→S' j=some .box∧g'[j]?=g[id]?
 arr:∀id j sz ep n,f id=some j→S id=some (.arr sz ep n)→∃sz' ep' n',S' j=some (.arr sz' ep' n')∧
  (L0 ep n ep' n'∨(ep'=ep∧n'=n∧sz'=sz∧g'[j]?=g[id]?))
 own:∀id j ep,f id=some j→S id=some (.own ep)→∃ep',S' j=some (.own ep')∧(ep<ep'∨(ep'=ep∧g'[j]?=g[id]?))
theorem wK{a b c d e f:Nat}(h:L0 a b c d)(h':L0 c d e f):L0 a b e f:=by
 unfold L0 at *;omega
inductive Ren(f:Nat→Option Nat):D→D→Prop
 | t (x:T):Ren f (.t x) (.t x)
 | nil:Ren f .nil .nil
 | agg (cs ds:List D) (hl:cs.length=ds.length) (h:∀(i:Nat) c d,cs[i]?=some c→ds[i]?=some d→Ren f c d):Ren f (.agg cs) (.agg ds)
 | bp (id off j:Nat) (h:f id=some j):Ren f (.bp id off) (.bp j off)
 | ap (id ep n i off j:Nat) (h:f id=some j):Ren f (.ap id ep n i off) (.ap j ep n i off)
 | ep (cs:List T):Ren f (.ep cs) (.ep cs)
 | ref (id ep n j:Nat) (h:f id=some j):Ren f (.ref id ep n) (.ref j ep n)
 | sub (id ep n lo hi j:Nat) (h:f id=some j):Ren f (.sub id ep n lo hi) (.sub j ep n lo hi)
 | fn (g:Nat) (cs ds:List D) (hl:cs.length=ds.length) (h:∀(i:Nat) c d,cs[i]?=some c→ds[i]?=some d→Ren f c d):Ren f (.fn g cs) (.fn g ds)
 | tup (cs ds:List D) (hl:cs.length=ds.length) (h:∀(i:Nat) c d,cs[i]?=some c→ds[i]?=some d→Ren f c d):Ren f (.tup cs) (.tup ds)
 | nilp:Ren f .nilp .nilp
 | und:Ren f .und .und
 | ub:Ren f .ub .ub
 | cl (es:List T):Ren f (.cl es) (.cl es)
 | q (id ep j:Nat) (es:List T) (h:f id=some j):Ren f (.q id ep es) (.q j ep es)
theorem Iy(og:OG)(n:Nat):fM (dE og n)=true:=by
 unfold dE;split<;>rfl
theorem FV(og:OG)(n:Nat)(h:og.blk=none→n=0):∃(a:Option Addr) (c:Nat),dE og n= .slice a n c∧(a=none→n=0):=by
 unfold dE
 cases hb:og.blk with
 | none=>exact⟨none,0,by rw[h hb],fun _=>h hb⟩
 | some b=>exact⟨some ⟨b,0,none⟩,og.cap,rfl,fun e=>by cases e⟩
theorem PI(og:OG)(n:Nat)(h:og.blk=none→n=0):∃a c,dE og n= .slice a n c:=by
 unfold dE
 cases hb:og.blk with
 | none=>simp[h hb]
 | some b=>exact⟨_,_,rfl⟩
theorem ah{α β:Type}{l:List α}{m:List β}(h:l.length=m.length){i:Nat}{x:α}(hx:l[i]?=some x):∃y,m[i]?=some y:=by
 have:i<m.length:=by rw[← h];exact(aLe.1 hx).1
 exact⟨_,aLc this⟩
theorem bF.later{F F':Fz}{g g':Gh}{S S':Nat→Option Sh}{f:Nat→Option Nat}(hF:mS F F')(hL:rm f g S g' S')
 {d d':D} (hr:Ren f d d'):∀ {v:Value},bF F g S v d→bF F' g' S' v d':=by
 induction hr with
 | t x=>intro v h;cases h with | t _ _ h=>exact .t _ _ (h.mono hF)
 | nil=>intro v h;cases h;exact .nil
 | agg cs ds hl _ ih=>
   intro v h
   cases h with
   | agg vs _ hl' hv h=>
     refine .agg vs ds (hl'.trans hl) hv fun i v d hv hd=>?_
     obtain⟨c,hc⟩:=ah hl.symm hd
     exact ih i c d hc hd (h i v c hv hc)
 | bp id off j hj=>
   intro v h
   cases h with
   | bp _ _ b c hg hs=>
     obtain⟨h1,h2⟩:=hL.box id j hj hs
     exact .bp j off b c (h2.trans hg) h1
 | ap id ep n i off j hj=>
   intro v h
   cases h with
   | ap _ _ _ _ _ sz b c hg hs=>
     obtain⟨sz',ep',n',h1,h2⟩:=hL.arr id j _ _ _ hj hs
     rcases h2 with h2 | ⟨rfl,rfl,rfl,h2⟩
     · exact .apOld _ j ep n i off _ _ _ h1 h2
     · exact .ap j _ _ i off _ b c (h2.trans hg) h1
   | apOld _ _ _ _ _ _ sz ep' n' hs hp=>
     obtain⟨sz'',ep'',n'',h1,h2⟩:=hL.arr id j _ _ _ hj hs
     refine .apOld _ j ep n i off _ _ _ h1 ?_
     rcases h2 with h2 | ⟨rfl,rfl,rfl,h2⟩
     · exact wK hp h2
     · exact hp
 | ep cs=>
   intro v h
   cases h with
   | ep _ b off cv h1 h2=>exact .ep cs b off cv (fun k c hc=>⟨hF _ _ _ (h1 k c hc).1,(h1 k c hc).2⟩) (fun k c hc=>(h2 k c hc).mono hF)
 | ref id ep n j hj=>
   intro v h
   cases h with
   | ref _ _ _ sz og hg hs hn=>
     obtain⟨sz',ep',n',h1,h2⟩:=hL.arr id j _ _ _ hj hs
     rcases h2 with h2 | ⟨rfl,rfl,rfl,h2⟩
     · obtain⟨a,c,e,ha⟩:=FV og n hn
       rw[e]
       exact .refOld a c j ep n _ _ _ h1 h2 ha
     · exact .ref j _ _ _ og (h2.trans hg) h1 hn
   | refOld a c _ _ _ sz ep' n' hs hp hn=>
     obtain⟨sz'',ep'',n'',h1,h2⟩:=hL.arr id j _ _ _ hj hs
     refine .refOld a c j ep n _ _ _ h1 ?_ hn
     rcases h2 with h2 | ⟨rfl,rfl,rfl,h2⟩
     · exact wK hp h2
     · exact hp
 | sub id ep n lo hi j hj=>
   intro v h
   cases h with
   | sub _ _ _ _ _ sz b c cap' a hg hs hlt hn ha hcap=>
     obtain⟨sz',ep',n',h1,h2⟩:=hL.arr id j _ _ _ hj hs
     rcases h2 with h2 | ⟨rfl,rfl,rfl,h2⟩
     · exact .subOld _ _ j ep n lo hi _ _ _ h1 h2
     · exact .sub j _ _ lo hi _ b c cap' a (h2.trans hg) h1 hlt hn ha hcap
   | sub0 a _ _ _ _ _ cap' sz ep' n' hs he=>
     obtain⟨sz',ep',n',h1,_⟩:=hL.arr id j _ _ _ hj hs
     exact .sub0 a j ep n lo hi cap' _ _ _ h1 he
   | subOld a c _ _ _ _ _ sz ep' n' hs hp=>
     obtain⟨sz'',ep'',n'',h1,h2⟩:=hL.arr id j _ _ _ hj hs
     refine .subOld a c j ep n lo hi _ _ _ h1 ?_
     rcases h2 with h2 | ⟨rfl,rfl,rfl,h2⟩
     · exact wK hp h2
     · exact hp
 | fn g cs ds hl _ ih=>
   intro v h
   cases h with
   | fn _ j hj vs _ hl' h=>
     refine .fn g j hj vs ds (hl'.trans hl) fun i v d hv hd=>?_
     obtain⟨c,hc⟩:=ah hl.symm hd
     exact ih i c d hc hd (h i v c hv hc)
 | tup cs ds hl _ ih=>
   intro v h
   cases h with
   | tup vs _ hl' h=>
     refine .tup vs ds (hl'.trans hl) fun i v d hv hd=>?_
     obtain⟨c,hc⟩:=ah hl.symm hd
     exact ih i c d hc hd (h i v c hv hc)
 | nilp=>intro v h;cases h;exact .nilp
 | und=>intro v h;exact .und _
 | ub=>intro v h;cases h;exact .ub _
 | cl es=>intro v h;cases h with | cl a _ h=>exact .cl a es (h.mono hF)
 | q id ep j es hj=>
   intro v h
   cases h with
   | q _ _ b off cap _ hg hs hb hl h hz=>
     obtain⟨ep',h1,h2⟩:=hL.own id j _ hj hs
     rcases h2 with h2 | ⟨rfl,h2⟩
     · exact .qOld _ _ j ep es _ h1 h2
     · exact .q j _ b off cap es (h2.trans hg) h1 hb hl (h.mono hF) hz
   | q0 a _ _ hs=>
     obtain⟨ep',h1,h2⟩:=hL.own id j _ hj hs
     rcases h2 with h2 | ⟨rfl,h2⟩
     · exact .qOld a 0 j ep [] _ h1 h2
     · exact .q0 a j _ h1
   | qOld a c _ _ _ ep' hs hp=>
     obtain⟨ep'',h1,h2⟩:=hL.own id j _ hj hs
     refine .qOld a c j ep es _ h1 ?_
     rcases h2 with h2 | ⟨rfl,h2⟩<;>omega
end Go.Ev
namespace Go.Ev
open Go
variable [Names]
theorem bI{α β:Type}{f:α→Option β}:∀ {l:List α} {m:List β},cK f l=some m→
 l.length=m.length∧∀(i:Nat) x y,l[i]?=some x→m[i]?=some y→f x=some y
 | [],m,h=>by
   simp only[cK,Option.some.injEq]at h;subst h;simp
 | a::l,m,h=>by
   simp only[cK,aLa,aLb]at h
   obtain⟨y,hy,r,hr,rfl⟩:=h
   obtain⟨h1,h2⟩:=bI hr
   refine⟨by simp[h1],fun i x z hx hz=>?_⟩
   cases i with
   | zero=>simp at hx hz;subst hx;subst hz;exact hy
   | succ i=>simp at hx hz;exact h2 i x z hx hz
theorem GN{f:Nat→Option Nat}:∀ {n:Nat} {d d':D},ren f n d=some d'→Ren f d d':=by
 intro n
 induction n with
 | zero=>
   intro d d' h
   cases d<;>simp only[ren,aLb,Option.some.injEq,reduceCtorEq]at h
   case t x=>subst h;exact .t x
   case nil=>subst h;exact .nil
   case bp id off=>obtain⟨j,hj,rfl⟩:=h;exact .bp _ _ _ hj
   case ap=>obtain⟨j,hj,rfl⟩:=h;exact .ap _ _ _ _ _ _ hj
   case ep cs=>subst h;exact .ep cs
   case ref=>obtain⟨j,hj,rfl⟩:=h;exact .ref _ _ _ _ hj
   case sub=>obtain⟨j,hj,rfl⟩:=h;exact .sub _ _ _ _ _ _ hj
   case nilp=>subst h;exact .nilp
   case und=>subst h;exact .und
   case ub=>subst h;exact .ub
   case cl es=>subst h;exact .cl es
   case q=>obtain⟨j,hj,rfl⟩:=h;exact .q _ _ _ _ hj
 | succ n ih=>
   intro d d' h
   cases d<;>simp only[ren,aLb,Option.some.injEq]at h
   case t x=>subst h;exact .t x
   case nil=>subst h;exact .nil
   case agg cs=>obtain⟨ds,hds,rfl⟩:=h;exact .agg cs ds (bI hds).1 fun i c d hc hd=>ih ((bI hds).2 i c d hc hd)
   case bp id off=>obtain⟨j,hj,rfl⟩:=h;exact .bp _ _ _ hj
   case ap=>obtain⟨j,hj,rfl⟩:=h;exact .ap _ _ _ _ _ _ hj
   case ep cs=>subst h;exact .ep cs
   case ref=>obtain⟨j,hj,rfl⟩:=h;exact .ref _ _ _ _ hj
   case sub=>obtain⟨j,hj,rfl⟩:=h;exact .sub _ _ _ _ _ _ hj
   case fn g cs=>obtain⟨ds,hds,rfl⟩:=h;exact .fn g cs ds (bI hds).1 fun i c d hc hd=>ih ((bI hds).2 i c d hc hd)
   case tup cs=>obtain⟨ds,hds,rfl⟩:=h;exact .tup cs ds (bI hds).1 fun i c d hc hd=>ih ((bI hds).2 i c d hc hd)
   case nilp=>subst h;exact .nilp
   case und=>subst h;exact .und
   case ub=>subst h;exact .ub
   case cl es=>subst h;exact .cl es
   case q=>obtain⟨j,hj,rfl⟩:=h;exact .q _ _ _ _ hj
def under(n i:Nat):Option Nat:=if i<n then some i else none
theorem PJ{n:Nat}:∀ {k:Nat} {d:D},old n k d=true→Ren (under n) d d:=by
 have hb:∀ {i:Nat},decide (i<n)=true→under n i=some i:=fun h=>by simp[under,of_decide_eq_true h]
 intro k
 induction k with
 | zero=>
   intro d h
   cases d<;>simp only[old,aLt]at h
   case t x=>exact .t x
   case nil=>exact .nil
   case bp id off=>exact .bp _ _ _ (hb h)
   case ap=>exact .ap _ _ _ _ _ _ (hb h)
   case ep cs=>exact .ep cs
   case ref=>exact .ref _ _ _ _ (hb h)
   case sub=>exact .sub _ _ _ _ _ _ (hb h)
   case nilp=>exact .nilp
   case und=>exact .und
   case ub=>exact .ub
   case cl es=>exact .cl es
   case q=>exact .q _ _ _ _ (hb h)
 | succ k ih=>
   intro d h
   have hl:∀ {cs:List D},cs.all (old n k)=true→∀(i:Nat) (c d:D),cs[i]?=some c→cs[i]?=some d→Ren (under n) c d:=by
    intro cs hcs i c d hc hd
    rw[hc]at hd;cases hd
    exact ih (aLx.1 hcs c (aLd hc))
   cases d<;>simp only[old]at h
   case t x=>exact .t x
   case nil=>exact .nil
   case agg cs=>exact .agg cs cs rfl (hl h)
   case bp id off=>exact .bp _ _ _ (hb h)
   case ap=>exact .ap _ _ _ _ _ _ (hb h)
   case ep cs=>exact .ep cs
   case ref=>exact .ref _ _ _ _ (hb h)
   case sub=>exact .sub _ _ _ _ _ _ (hb h)
   case fn g cs=>exact .fn g cs cs rfl (hl h)
   case tup cs=>exact .tup cs cs rfl (hl h)
   case nilp=>exact .nilp
   case und=>exact .und
   case ub=>exact .ub
   case cl es=>exact .cl es
   case q=>exact .q _ _ _ _ (hb h)
def Fits(F:Fz)(g:Gh)(S:Nat→Option Sh)(w:World)(og:OG):Obj→Prop
 | .box cs=>(og.blk=none∧∃c:Array Value,c.size=cs.length∧∀(i:Nat) v d,c[i]?=some v→cs[i]?=some d→fM v=true∧bF F g S v d)∨∃b c ty,og.blk=some b∧w.heap[b]?=some (.cells c ty (0,0))∧c.size=cs.length∧
  (∀(i:Nat) v d,c[i]?=some v→cs[i]?=some d→fM v=true∧bF F g S v d)∧∀o,F b o=none
 | .arr sz pin _ es=>(og.blk=none∧(es=[]∨∀e∈es,∃x,e= .t x))∨
  ∃b c ty,og.blk=some b∧w.heap[b]?=some (.cells c ty (0,0))∧c.size=og.cap*sz∧es.length≤og.cap∧
   (∀e∈es,e.cells.length=sz∧e.lO=true)∧
   (∀(i:Nat) e (k:Nat) d,es[i]?=some e→e.cells[k]?=some d→∃v,c[i*sz+k]?=some v∧fM v=true∧bF F g S v d)∧
   (∀o v,F b o=some v→pin=true∧o<es.length*sz)
 | .own _=>∃b c ty e,og.blk=some b∧w.heap[b]?=some (.cells c ty (0,0))∧og.cap=room e c.size∧c.size≤9223372036854775807∧e≤c.size∧∀o v,F b o=some v→o<e
theorem Fits.old{F:Fz}{g:Gh}{S:Nat→Option Sh}{w:World}{og:OG}{sz ep:Nat}{pin:Bool}{es:List D}(h:Fits F g S w og (.arr sz pin ep es))(hn:og.blk=none→es.length=0):
 (og.blk=none∧es=[])∨∃b c ty,og.blk=some b∧w.heap[b]?=some (.cells c ty (0,0))∧c.size=og.cap*sz∧es.length≤og.cap∧
  (∀e∈es,e.cells.length=sz∧e.lO=true)∧
  (∀(i:Nat) e (k:Nat) d,es[i]?=some e→e.cells[k]?=some d→∃v,c[i*sz+k]?=some v∧fM v=true∧bF F g S v d)∧
  (∀o v,F b o=some v→pin=true∧o<es.length*sz):=by
 rcases h with⟨h1,_⟩ | h
 · exact .inl ⟨h1,List.length_eq_zero_iff.1 (hn h1)⟩
 · exact .inr h
theorem Fits.Kk{F:Fz}{g:Gh}{S:Nat→Option Sh}{w:World}{og:OG}{cs:List D}(h:Fits F g S w og (.box cs)):
 ∃c:Array Value,c.size=cs.length∧∀(i:Nat) v d,c[i]?=some v→cs[i]?=some d→fM v=true∧bF F g S v d:=by
 rcases h with⟨_,c,h1,h2⟩ | ⟨_,c,_,_,_,h1,h2,_⟩
 · exact⟨c,h1,h2⟩
 · exact⟨c,h1,h2⟩
theorem Fits.born{F:Fz}{g:Gh}{S:Nat→Option Sh}{w:World}{b c:Nat}{cs:List D}(h:Fits F g S w ⟨some b,c⟩ (.box cs)):
 ∃b' c' ty,(⟨some b,c⟩:OG).blk=some b'∧w.heap[b']?=some (.cells c' ty (0,0))∧c'.size=cs.length∧
  (∀(i:Nat) v d,c'[i]?=some v→cs[i]?=some d→fM v=true∧bF F g S v d)∧∀o,F b' o=none:=by
 rcases h with⟨h,_⟩ | h
 · cases h
 · exact h
def Gh.has(g:Gh)(b:Nat):Prop:=∃og∈g,og.blk=some b
structure az(F:Fz)(g:Gh)(H:af)(w:World):Prop where
 len:g.length=H.length
 fits:∀(i:Nat) o og,H[i]?=some o→g[i]?=some og→Fits F g (shp H) w og o
 sep:∀(i j:Nat) ogi ogj b,i≠j→g[i]?=some ogi→g[j]?=some ogj→ogi.blk=some b→ogj.blk=some b→False
 agree:∀b o v,F b o=some v→w.cell? ⟨b,o,none⟩=some v
def xk(w w':World):Prop:=w'.os=w.os∧w'.output=w.output
structure Ext(F:Fz)(g:Gh)(w:World)(F':Fz)(g':Gh)(w':World):Prop where
 sub:mS F F'
 size:w.heap.size≤w'.heap.size
 keep:∀b,b<w.heap.size→¬g.has b→w'.heap[b]?=w.heap[b]?
 blks:∀b,g'.has b→g.has b∨w.heap.size≤b
 newF:∀b o v,F' b o=some v→F b o=some v∨g.has b∨w.heap.size≤b
 io:xk w w'
theorem Ext.refl(F:Fz)(g:Gh)(w:World):Ext F g w F g w:=⟨mS.refl F,aLs _,fun _ _ _=>rfl,fun _ h=> .inl h,fun _ _ _ h=> .inl h,rfl,rfl⟩
theorem Ext.trans{F F' F'':Fz}{g g' g'':Gh}{w w' w'':World}(h:Ext F g w F' g' w')(h':Ext F' g' w' F'' g'' w''):Ext F g w F'' g'' w'' where
 io:=⟨h'.io.1.trans h.io.1,h'.io.2.trans h.io.2⟩
 sub:=h.sub.trans h'.sub
 size:=Nat.le_trans h.size h'.size
 keep b hb hg:=by
  rw[← h.keep b hb hg]
  refine h'.keep b (Nat.lt_of_lt_of_le hb h.size) fun hh=>?_
  rcases h.blks b hh with h1 | h1
  · exact hg h1
  · omega
 blks b hb:=by
  rcases h'.blks b hb with h1 | h1
  · exact h.blks b h1
  · exact .inr (Nat.le_trans h.size h1)
 newF b o v hv:=by
  rcases h'.newF b o v hv with h1 | h1 | h1
  · exact h.newF b o v h1
  · rcases h.blks b h1 with h2 | h2
    · exact .inr (.inl h2)
    · exact .inr (.inr h2)
  · exact .inr (.inr (Nat.le_trans h.size h1))
abbrev Aft(g:Gh)(H:af)(g':Gh)(H':af):Prop:=rm some g (shp H) g' (shp H')
theorem Aft.refl(g:Gh)(H:af):Aft g H g H where
 box id j hj hs:=by cases hj;exact⟨hs,rfl⟩
 arr id j sz ep n hj hs:=by cases hj;exact⟨sz,ep,n,hs,.inr ⟨rfl,rfl,rfl,rfl⟩⟩
 own id j ep hj hs:=by cases hj;exact⟨ep,hs,.inr ⟨rfl,rfl⟩⟩
theorem rm.comp{f f':Nat→Option Nat}{g g' g'':Gh}{S S' S'':Nat→Option Sh}(h:rm f g S g' S')(h':rm f' g' S' g'' S''):
 rm (fun i=>(f i).bind f') g S g'' S'' where
 box id j hj hs:=by
  obtain⟨k,hk,hk'⟩:=aLa.1 hj
  obtain⟨a,b⟩:=h.box id k hk hs
  obtain⟨c,d⟩:=h'.box k j hk' a
  exact⟨c,d.trans b⟩
 arr id j sz ep n hj hs:=by
  obtain⟨k,hk,hk'⟩:=aLa.1 hj
  obtain⟨sz1,ep1,n1,a,b⟩:=h.arr id k sz ep n hk hs
  obtain⟨sz2,ep2,n2,c,d⟩:=h'.arr k j _ _ _ hk' a
  refine⟨sz2,ep2,n2,c,?_⟩
  rcases b with b | ⟨rfl,rfl,rfl,b⟩
  · rcases d with d | ⟨rfl,rfl,rfl,d⟩
    · exact .inl (wK b d)
    · exact .inl b
  · rcases d with d | ⟨rfl,rfl,rfl,d⟩
    · exact .inl d
    · exact .inr ⟨rfl,rfl,rfl,d.trans b⟩
 own id j ep hj hs:=by
  obtain⟨k,hk,hk'⟩:=aLa.1 hj
  obtain⟨ep1,a,b⟩:=h.own id k ep hk hs
  obtain⟨ep2,c,d⟩:=h'.own k j _ hk' a
  refine⟨ep2,c,?_⟩
  rcases b with b | ⟨rfl,b⟩
  · rcases d with d | ⟨rfl,d⟩
    · exact .inl (Nat.lt_trans b d)
    · exact .inl b
  · rcases d with d | ⟨rfl,d⟩
    · exact .inl d
    · exact .inr ⟨rfl,d.trans b⟩
theorem Aft.trans{g g' g'':Gh}{H H' H'':af}(h:Aft g H g' H')(h':Aft g' H' g'' H''):Aft g H g'' H'':=by
 have:=rm.comp h h'
 simpa using this
theorem bF.same{F:Fz}{g:Gh}{S:Nat→Option Sh}{v:Value}{d:D}(h:bF F g S v d):Ren some d d:=by
 induction h with
 | t v x h=>exact .t x
 | nil=>exact .nil
 | agg vs cs hl hv h ih=>
   refine .agg cs cs rfl fun i c d hc hd=>?_
   rw[hc]at hd;cases hd
   obtain⟨v,hv⟩:=ah hl.symm hc
   exact ih i v c hv hc
 | bp=>exact .bp _ _ _ rfl
 | ap=>exact .ap _ _ _ _ _ _ rfl
 | apOld=>exact .ap _ _ _ _ _ _ rfl
 | ep=>exact .ep _
 | ref=>exact .ref _ _ _ _ rfl
 | refOld=>exact .ref _ _ _ _ rfl
 | sub=>exact .sub _ _ _ _ _ _ rfl
 | sub0=>exact .sub _ _ _ _ _ _ rfl
 | subOld=>exact .sub _ _ _ _ _ _ rfl
 | fn f j hj vs cs hl h ih=>
   refine .fn f cs cs rfl fun i c d hc hd=>?_
   rw[hc]at hd;cases hd
   obtain⟨v,hv⟩:=ah hl.symm hc
   exact ih i v c hv hc
 | tup vs cs hl h ih=>
   refine .tup cs cs rfl fun i c d hc hd=>?_
   rw[hc]at hd;cases hd
   obtain⟨v,hv⟩:=ah hl.symm hc
   exact ih i v c hv hc
 | nilp=>exact .nilp
 | und=>exact .und
 | ub=>exact .ub
 | cl=>exact .cl _
 | q=>exact .q _ _ _ _ rfl
 | q0=>exact .q _ _ _ _ rfl
 | qOld=>exact .q _ _ _ _ rfl
theorem bF.aft{F F':Fz}{g g':Gh}{S S':Nat→Option Sh}{v:Value}{d:D}(h:bF F g S v d)(hF:mS F F')(hA:rm some g S g' S'):bF F' g' S' v d:=
 bF.later hF hA h.same h
theorem Fits.aft{F:Fz}{g g':Gh}{S S':Nat→Option Sh}{w w':World}{og:OG}{o:Obj}(h:Fits F g S w og o)(hA:rm some g S g' S')
 (hw:∀b,og.blk=some b→w'.heap[b]?=w.heap[b]?):Fits F g' S' w' og o:=by
 cases o with
 | box cs=>
   rcases h with⟨h0,c,hs,hr⟩ | ⟨b,c,ty,hb,hc,hs,hr,hf⟩
   · exact .inl ⟨h0,c,hs,fun i v d hv hd=>⟨(hr i v d hv hd).1,(hr i v d hv hd).2.aft (mS.refl F) hA⟩⟩
   · exact .inr ⟨b,c,ty,hb,(hw b hb).trans hc,hs,fun i v d hv hd=>⟨(hr i v d hv hd).1,(hr i v d hv hd).2.aft (mS.refl F) hA⟩,hf⟩
 | arr sz pin ep es=>
   rcases h with h | ⟨b,c,ty,hb,hc,hs,hl,hz,hr,hf⟩
   · exact .inl h
   · exact .inr ⟨b,c,ty,hb,(hw b hb).trans hc,hs,hl,hz,fun i e k d he hd=>let⟨v,h1,h2,h3⟩:=hr i e k d he hd;⟨v,h1,h2,h3.aft (mS.refl F) hA⟩,hf⟩
 | own ep=>
   obtain⟨b,c,ty,e,hb,hc,h1,h2,h3,h4⟩:=h
   exact⟨b,c,ty,e,hb,(hw b hb).trans hc,h1,h2,h3,h4⟩
theorem Fits.block{F:Fz}{g:Gh}{S:Nat→Option Sh}{w:World}{og:OG}{o:Obj}(h:Fits F g S w og o){b:Nat}(hb:og.blk=some b):
 ∃c ty,w.heap[b]?=some (.cells c ty (0,0)):=by
 cases o with
 | box cs=>
   rcases h with⟨h,_⟩ | ⟨b',c,ty,hb',hc,_⟩
   · rw[hb]at h;cases h
   · rw[hb]at hb';cases hb';exact⟨c,ty,hc⟩
 | arr sz pin ep es=>
   rcases h with⟨h,_⟩ | ⟨b',c,ty,hb',hc,_⟩
   · rw[hb]at h;cases h
   · rw[hb]at hb';cases hb';exact⟨c,ty,hc⟩
 | own ep=>
   obtain⟨b',c,ty,_,hb',hc,_⟩:=h
   rw[hb]at hb';cases hb';exact⟨c,ty,hc⟩
theorem gH{w:World}{b:Nat}{o:Go.Obj}(h:w.heap[b]?=some o):b<w.heap.size:=(Array.getElem?_eq_some_iff.1 h).1
theorem az.og{F:Fz}{g:Gh}{H:af}{w:World}(h:az F g H w){i:Nat}{o:Obj}(ho:H[i]?=some o):∃og,g[i]?=some og∧Fits F g (shp H) w og o:=by
 obtain⟨og,hg⟩:=ah h.len.symm ho
 exact⟨og,hg,h.fits i o og ho hg⟩
theorem az.ob{F:Fz}{g:Gh}{H:af}{w:World}(h:az F g H w){i:Nat}{og:OG}(hg:g[i]?=some og):∃o,H[i]?=some o∧Fits F g (shp H) w og o:=by
 obtain⟨o,ho⟩:=ah h.len hg
 exact⟨o,ho,h.fits i o og ho hg⟩
theorem az.lt{F:Fz}{g:Gh}{H:af}{w:World}(h:az F g H w){b:Nat}(hb:g.has b):b<w.heap.size:=by
 obtain⟨og,hm,hb⟩:=hb
 obtain⟨i,hi⟩:=aLf.1 hm
 obtain⟨o,_,hf⟩:=h.ob hi
 obtain⟨c,ty,hc⟩:=hf.block hb
 exact gH hc
theorem az.ltF{F:Fz}{g:Gh}{H:af}{w:World}(h:az F g H w){b o:Nat}{v:Value}(hb:F b o=some v):b<w.heap.size:=by
 have:=h.agree b o v hb
 unfold World.cell? at this
 cases hh:w.heap[b]? with
 | none=>simp[hh]at this
 | some x=>exact gH hh
theorem oT{w w':World}{b:Nat}(h:w'.heap[b]?=w.heap[b]?)(o:Nat):w'.cell? ⟨b,o,none⟩=w.cell? ⟨b,o,none⟩:=by
 simp[World.cell?,h]
theorem az.grow{F:Fz}{g:Gh}{H:af}{w w':World}(h:az F g H w)(hw:∀b,b<w.heap.size→w'.heap[b]?=w.heap[b]?):az F g H w' where
 len:=h.len
 fits i o og ho hg:=(h.fits i o og ho hg).aft (Aft.refl g H) fun b hb=>by
  obtain⟨c,ty,hc⟩:=(h.fits i o og ho hg).block hb
  exact hw b (gH hc)
 sep:=h.sep
 agree b o v hv:=by
  rw[oT (hw b (h.ltF hv))];exact h.agree b o v hv
theorem Ext.grow{F:Fz}{g:Gh}{w w':World}(hs:w.heap.size≤w'.heap.size)(hw:∀b,b<w.heap.size→w'.heap[b]?=w.heap[b]?)(hio:xk w w':=by exact⟨rfl,rfl⟩):Ext F g w F g w':=
 ⟨mS.refl F,hs,fun b hb _=>hw b hb,fun _ h=> .inl h,fun _ _ _ h=> .inl h,hio⟩
theorem Am{H K:af}{i:Nat}{s:Sh}(h:shp H i=some s):shp (H++K) i=some s:=by
 unfold shp at*
 obtain⟨o,ho,hs⟩:=aLb.1 h
 have hi:=(aLe.1 ho).1
 rw[aLg hi,ho];exact congrArg some hs
theorem get_append{α:Type}{l m:List α}{i:Nat}{x:α}(h:l[i]?=some x):(l++m)[i]?=some x:=by
 have hi:=(aLe.1 h).1
 rw[aLg hi];exact h
theorem aj{α:Type}{l:List α}{i:Nat}{x:α}(h:l[i]?=some x):i<l.length:=(aLe.1 h).1
theorem gA{H:af}{i:Nat}{s:Sh}(h:shp H i=some s):i<H.length:=by
 unfold shp at h
 obtain⟨o,ho,_⟩:=aLb.1 h
 exact aj ho
theorem Aft.append{g:Gh}{H:af}(hl:g.length=H.length)(g':Gh)(H':af):Aft g H (g++g') (H++H') where
 box id j hj hs:=by
  cases hj
  exact⟨Am hs,aLg (hl▸gA hs)⟩
 arr id j sz ep n hj hs:=by
  cases hj
  exact⟨sz,ep,n,Am hs,.inr ⟨rfl,rfl,rfl,aLg (hl▸gA hs)⟩⟩
 own id j ep hj hs:=by
  cases hj
  exact⟨ep,Am hs,.inr ⟨rfl,aLg (hl▸gA hs)⟩⟩
theorem az.add{F:Fz}{g:Gh}{H:af}{w:World}(h:az F g H w)(og:OG)(o:Obj)
 (hf:Fits F (g++[og]) (shp (H++[o])) w og o) (hn:∀b,og.blk=some b→¬g.has b):az F (g++[og]) (H++[o]) w where
 len:=by simp[h.len]
 fits i o' og' ho hg:=by
  by_cases hi:i<H.length
  · rw[aLg hi]at ho
    rw[aLg (h.len▸hi)]at hg
    exact(h.fits i o' og' ho hg).aft (Aft.append h.len _ _) fun _ _=>rfl
  · have h1:i=H.length:=by have:=aj ho;simp at this;omega
    subst h1
    simp at ho
    rw[← h.len]at hg
    simp at hg
    subst ho;subst hg;exact hf
 sep i j ogi ogj b hne hi hj hbi hbj:=by
  have h1:=aj hi
  have h2:=aj hj
  simp at h1 h2
  by_cases hi':i<g.length
  · rw[aLg hi']at hi
    by_cases hj':j<g.length
    · rw[aLg hj']at hj
      exact h.sep i j ogi ogj b hne hi hj hbi hbj
    · have:j=g.length:=by omega
      subst this;simp at hj;subst hj
      exact hn b hbj ⟨ogi,aLd hi,hbi⟩
  · have:i=g.length:=by omega
    subst this;simp at hi;subst hi
    have hj':j<g.length:=by omega
    rw[aLg hj']at hj
    exact hn b hbi ⟨ogj,aLd hj,hbj⟩
 agree:=h.agree
theorem az.upd{F:Fz}{g:Gh}{H:af}{w w':World}(h:az F g H w){id:Nat}{og og':OG}{o o':Obj}(hg:g[id]?=some og)(_ho:H[id]?=some o)
 (hA:Aft g H (g.set id og') (H.set id o')) (hf:Fits F (g.set id og') (shp (H.set id o')) w' og' o')
 (hb:∀b,og'.blk=some b→og.blk=some b∨w.heap.size≤b)
 (hw:∀b,b<w.heap.size→og.blk≠some b→w'.heap[b]?=w.heap[b]?)
 (ha:∀b o v,F b o=some v→og.blk=some b→w'.cell? ⟨b,o,none⟩=some v):az F (g.set id og') (H.set id o') w' where
 len:=by simp[h.len]
 fits i oi ogi hoi hgi:=by
  by_cases hi:id=i
  · subst hi
    rw[aLj (aj hg)]at hgi
    have hl:id<H.length:=h.len▸aj hg
    rw[aLj hl]at hoi
    cases hgi;cases hoi;exact hf
  · rw[aLi hi]at hgi hoi
    refine(h.fits i oi ogi hoi hgi).aft hA fun b hb'=>?_
    obtain⟨c,ty,hc⟩:=(h.fits i oi ogi hoi hgi).block hb'
    exact hw b (gH hc) fun e=>h.sep id i og ogi b hi hg hgi e hb'
 sep i j ogi ogj b hne hi hj hbi hbj:=by
  have key:∀(j:Nat) ogj,id≠j→g[j]?=some ogj→og'.blk=some b→ogj.blk=some b→False:=by
   intro j ogj hne hj hb1 hb2
   rcases hb b hb1 with h1 | h1
   · exact h.sep id j og ogj b hne hg hj h1 hb2
   · obtain⟨o2,ho2,hf2⟩:=h.ob hj
     obtain⟨c,ty,hc⟩:=hf2.block hb2
     have:=gH hc
     omega
  by_cases e1:id=i
  · subst e1
    rw[aLj (aj hg)]at hi
    cases hi
    rw[aLi hne]at hj
    exact key j ogj hne hj hbi hbj
  · rw[aLi e1]at hi
    by_cases e2:id=j
    · subst e2
      rw[aLj (aj hg)]at hj
      cases hj
      exact key i ogi e1 hi hbj hbi
    · rw[aLi e2]at hj
      exact h.sep i j ogi ogj b hne hi hj hbi hbj
 agree b o v hv:=by
  by_cases hb':og.blk=some b
  · exact ha b o v hv hb'
  · rw[oT (hw b (h.ltF hv) hb')];exact h.agree b o v hv
theorem Ext.upd{F:Fz}{g:Gh}{w w':World}{id:Nat}{og og':OG}(hg:g[id]?=some og)(hs:w.heap.size≤w'.heap.size)
 (hb:∀b,og'.blk=some b→og.blk=some b∨w.heap.size≤b)
 (hw:∀b,b<w.heap.size→og.blk≠some b→w'.heap[b]?=w.heap[b]?) (hio:xk w w':=by exact⟨rfl,rfl⟩):Ext F g w F (g.set id og') w' where
 io:=hio
 sub:=mS.refl F
 size:=hs
 keep b hb' hn:=hw b hb' fun e=>hn ⟨og,aLd hg,e⟩
 blks b h:=by
  obtain⟨o,hm,ho⟩:=h
  rcases aLk hm with h1 | h1
  · exact .inl ⟨o,h1,ho⟩
  · subst h1
    rcases hb b ho with h2 | h2
    · exact .inl ⟨og,aLd hg,h2⟩
    · exact .inr h2
 newF _ _ _ h:= .inl h
theorem Ext.add{F:Fz}{g:Gh}{w w':World}(og:OG)(hs:w.heap.size≤w'.heap.size)(hw:∀b,b<w.heap.size→w'.heap[b]?=w.heap[b]?)
 (hn:∀b,og.blk=some b→w.heap.size≤b) (hio:xk w w':=by exact⟨rfl,rfl⟩):Ext F g w F (g++[og]) w' where
 io:=hio
 sub:=mS.refl F
 size:=hs
 keep b hb _:=hw b hb
 blks b h:=by
  obtain⟨o,hm,ho⟩:=h
  rcases List.mem_append.1 hm with h1 | h1
  · exact .inl ⟨o,h1,ho⟩
  · simp at h1;subst h1;exact .inr (hn b ho)
 newF _ _ _ h:= .inl h
theorem Aft.set{g:Gh}{H:af}{id:Nat}{og og':OG}{o o':Obj}(hg:g[id]?=some og)(ho:H[id]?=some o)
 (h:(o.sh= .box∧o'.sh= .box∧og'=og)∨∃sz ep n sz' ep' n',o.sh= .arr sz ep n∧o'.sh= .arr sz' ep' n'∧
  (L0 ep n ep' n'∨(ep'=ep∧n'=n∧sz'=sz∧og'=og))):Aft g H (g.set id og') (H.set id o') where
 box i j hj hs:=by
  cases hj
  by_cases e:id=i
  · subst e
    have:o.sh= .box:=by simpa [shp,ho]using hs
    rcases h with⟨_,h2,h3⟩ | ⟨_,_,_,_,_,_,h1,_⟩
    · subst h3
      exact⟨by simp[shp,aLj (aj ho),h2],by rw[aLj (aj hg),hg]⟩
    · rw[this]at h1;cases h1
  · exact⟨by simpa [shp,aLi e]using hs,aLi e⟩
 arr i j sz ep n hj hs:=by
  cases hj
  by_cases e:id=i
  · subst e
    have h0:o.sh= .arr sz ep n:=by simpa [shp,ho]using hs
    rcases h with⟨h1,_⟩ | ⟨sz1,ep1,n1,sz',ep',n',h1,h2,h3⟩
    · rw[h0]at h1;cases h1
    · rw[h0]at h1;cases h1
      refine⟨sz',ep',n',by simp[shp,aLj (aj ho),h2],?_⟩
      rcases h3 with h3 | ⟨a,b,c,d⟩
      · exact .inl h3
      · subst d;exact .inr ⟨a,b,c,by rw[aLj (aj hg),hg]⟩
  · exact⟨sz,ep,n,by simpa [shp,aLi e]using hs,.inr ⟨rfl,rfl,rfl,aLi e⟩⟩
 own i j ep hj hs:=by
  cases hj
  by_cases e:id=i
  · subst e
    have h0:o.sh= .own ep:=by simpa [shp,ho]using hs
    rcases h with⟨h1,_⟩ | ⟨sz1,ep1,n1,sz',ep',n',h1,h2,h3⟩<;>(rw[h0]at h1;cases h1)
  · exact⟨ep,by simpa [shp,aLi e]using hs,.inr ⟨rfl,aLi e⟩⟩
theorem An{H:af}{id ep:Nat}(h:ER H id ep=true):H[id]?=some (.own ep):=by
 unfold ER at h
 split at h
 · rename_i ep' he
   rw[he,eq_of_beq h]
 · cases h
theorem bF.XA{F:Fz}{g:Gh}{H:af}{v:Value}{id ep:Nat}{es:List T}(hx:bF F g (shp H) v (.q id ep es))(ho:ER H id ep=true):
 (∃b off cap,g[id]?=some ⟨some b,room (off+es.length) (off+cap)⟩∧H[id]?=some (.own ep)∧off+cap≤9223372036854775807∧es.length≤cap∧
  lP F (.slice (some ⟨b,off,none⟩) es.length cap) (.sl es)∧(∀e∈es,e.cells.length=1)∧v= .slice (some ⟨b,off,none⟩) es.length cap)∨(es=[]∧∃a,v= .slice a 0 0):=by
 have h0:=An ho
 cases hx with
 | q _ _ b off cap _ hg hs hb hl h hz=>exact .inl ⟨b,off,cap,hg,h0,hb,hl,h,hz,rfl⟩
 | q0 a=>exact .inr ⟨rfl,a,rfl⟩
 | qOld a c _ _ _ ep' hs hp=>
   simp only[shp,h0,aLw,Obj.sh,Option.some.injEq,Sh.own.injEq]at hs
   omega
theorem L3{e s e' s':Nat}(h:room e s=room e' s')(h1:e≤9223372036854775807)(h2:e'≤9223372036854775807):e=e'∧s=s':=by
 unfold room at h
 omega
theorem Aft.aeO{g:Gh}{H:af}{id ep ep':Nat}{og og':OG}(hg:g[id]?=some og)(ho:H[id]?=some (.own ep))(h:ep<ep'):Aft g H (g.set id og') (H.set id (.own ep')) where
 box i j hj hs:=by
  cases hj
  by_cases e:id=i
  · subst e
    simp[shp,ho,Obj.sh]at hs
  · exact⟨by simpa [shp,aLi e]using hs,aLi e⟩
 arr i j sz ep1 n hj hs:=by
  cases hj
  by_cases e:id=i
  · subst e
    simp[shp,ho,Obj.sh]at hs
  · exact⟨sz,ep1,n,by simpa [shp,aLi e]using hs,.inr ⟨rfl,rfl,rfl,aLi e⟩⟩
 own i j ep1 hj hs:=by
  cases hj
  by_cases e:id=i
  · subst e
    have h0:ep=ep1:=by simpa [shp,ho,Obj.sh]using hs
    subst h0
    exact⟨ep',by simp[shp,aLj (aj ho),Obj.sh],.inl h⟩
  · exact⟨ep1,by simpa [shp,aLi e]using hs,.inr ⟨rfl,aLi e⟩⟩
end Go.Ev
namespace Go.Ev
open Go Go.RowKit
variable [Names]
def GO(P:Program)(j:FuncId):Prop:=
 (∀args w,(callFunc j args).run P w= .ok (.enter j args) w)∧
 ∀(n l Bs Bn m:Nat) (J:Nat→World→Prop),1≤n→m≤500000→(∀k W,J k W→J k { W with drawn:=W.drawn+1})→
  (∀k W,J k W→W.cell? ⟨Bn,0,none⟩=some (.int .i64 2)∧∃a cap,W.cell? ⟨Bs,0,none⟩=some (.slice a (2*m) cap)∧(m≠0→2*m≤cap∧∃b off,a=some ⟨b,off,none⟩))→
  (∀k W b off cap,k<m→J k W→W.cell? ⟨Bs,0,none⟩=some (.slice (some ⟨b,off,none⟩) (2*m) cap)→
   YieldAt Fence.wide (n-1) P l #[.slice (some ⟨b,off+2*k,none⟩) 2 2] W fun e W'=>e= .returned (.bool true)∧J (k+1) W')→
  ∀W,J 0 W→CallsIn Fence.wide n P j #[.func (.yield l) #[] #[],.pointer (some ⟨Bs,0,none⟩),.pointer (some ⟨Bn,0,none⟩)] W fun e W'=>(∃v,e= .returned v)∧J m W'
def Marks(bs:Nat)(ds:List Deferred)(g:Gh)(w:World):Prop:=
 bs≤w.heap.size∧∃l:List Nat,ds=l.map (fun D=>{ target:= .collected D,args:= #[]})∧l.Nodup∧∀D∈l,bs≤D∧w.heap[D]?=some (.deferred (some []))∧¬g.has D
theorem Marks.nil{bs:Nat}{g:Gh}{w:World}(h:bs≤w.heap.size):Marks bs [] g w:=⟨h,[],rfl,List.nodup_nil,fun D h=>by cases h⟩
theorem Marks.ext{bs:Nat}{ds:List Deferred}{F F':Fz}{g g':Gh}{w w':World}(h:Marks bs ds g w)(hE:Ext F g w F' g' w'):Marks bs ds g' w':=by
 obtain⟨h0,l,h1,h2,h3⟩:=h
 refine⟨Nat.le_trans h0 hE.size,l,h1,h2,fun D hD=>?_⟩
 obtain⟨a,b,c⟩:=h3 D hD
 have hlt:=(Array.getElem?_eq_some_iff.1 b).1
 refine⟨a,(hE.keep D hlt c).trans b,fun hx=>?_⟩
 rcases hE.blks D hx with h | h
 · exact c h
 · omega
theorem Marks.gh{bs:Nat}{ds:List Deferred}{g g':Gh}{w:World}(h:Marks bs ds g w)(hg:∀b,g'.has b→g.has b):Marks bs ds g' w:=by
 obtain⟨h0,l,h1,h2,h3⟩:=h
 exact⟨h0,l,h1,h2,fun D hD=>⟨(h3 D hD).1,(h3 D hD).2.1,fun hx=>(h3 D hD).2.2 (hg D hx)⟩⟩
theorem Marks.cons{bs:Nat}{ds:List Deferred}{g g0:Gh}{w w0:World}{D:Nat}(h:Marks bs ds g w)(hD:bs≤D)(hw:w.heap[D]?=some (.deferred (some [])))(hg:¬g.has D)(h0:Marks bs ds g0 w0)(hn:w0.heap.size≤D):Marks bs ({ target:= .collected D,args:= #[]}::ds) g w:=by
 obtain⟨k0,l,rfl,h2,h3⟩:=h
 obtain⟨_,l',e,_,k3⟩:=h0
 refine⟨k0,D::l,rfl,List.nodup_cons.2 ⟨fun hm=>?_,h2⟩,fun E hE=>?_⟩
 · have e2:l=l':=by
    have:=congrArg (List.map fun d:Deferred=>match d.target with | .collected D=>D | _=>0) e
    simpa [Function.comp_def]using this
   subst e2
   have:=(Array.getElem?_eq_some_iff.1 (k3 D hm).2.1).1
   omega
 · rcases List.mem_cons.1 hE with rfl | hE
   · exact⟨hD,hw,hg⟩
   · exact h3 E hE
theorem Marks.putObj{bs:Nat}{ds:List Deferred}{g:Gh}{w:World}(h:Marks bs ds g w){l:Nat}{r:Loop}(hl:w.heap[l]?=some (.loop r))(o:Go.Obj):Marks bs ds g (w.putObj l o):=by
 obtain⟨h0,k,h1,h2,h3⟩:=h
 refine⟨by simpa [World.putObj]using h0,k,h1,h2,fun D hD=>⟨(h3 D hD).1,?_,(h3 D hD).2.2⟩⟩
 refine(World.putObj_heap_other fun e=>?_).trans (h3 D hD).2.1
 have:=(h3 D hD).2.1
 rw[e,hl]at this;cases this
theorem az.other{F:Fz}{g:Gh}{H:af}{w w':World}(h:az F g H w)(hw:∀b,(g.has b∨∃o v,F b o=some v)→w'.heap[b]?=w.heap[b]?):az F g H w' where
 len:=h.len
 fits i o og ho hg:=(h.fits i o og ho hg).aft (Aft.refl g H) fun b hb=>hw b (.inl ⟨og,aLd hg,hb⟩)
 sep:=h.sep
 agree b o v hv:=by
  rw[oT (hw b (.inr ⟨o,v,hv⟩))];exact h.agree b o v hv
theorem az.noF{F:Fz}{g:Gh}{H:af}{w:World}(h:az F g H w){l:Nat}{o:Go.Obj}(ho:w.heap[l]?=some o)(hc:o.isCells=false)(i:Nat)(v:Value):F l i≠some v:=by
 intro hv
 have:=h.agree l i v hv
 unfold World.cell? at this
 rw[ho]at this
 cases o<;>simp_all [Go.Obj.isCells]
theorem az.putObj{F:Fz}{g:Gh}{H:af}{w:World}(h:az F g H w){l:Nat}{o:Go.Obj}(ho:w.heap[l]?=some o)(hc:o.isCells=false)(hg:¬g.has l)(o':Go.Obj):az F g H (w.putObj l o'):=
 h.other fun b hb=>World.putObj_heap_other (fun e=>by
  subst e
  rcases hb with hb | ⟨i,v,hb⟩
  · exact hg hb
  · exact h.noF ho hc i v hb)
theorem Ext.putObj{F F':Fz}{g g':Gh}{w w':World}(h:Ext F g w F' g' w'){l:Nat}(hl:w.heap.size≤l)(o':Go.Obj):Ext F g w F' g' (w'.putObj l o') where
 sub:=h.sub
 size:=by have:=h.size;simp[World.putObj];exact this
 keep b hb hg:=by rw[World.putObj_heap_other (by omega)];exact h.keep b hb hg
 blks:=h.blks
 newF:=h.newF
 io:=h.io
theorem C0{P:Program}{fn:Func}{tmps:Array Value}{R:Ending→World→Prop}{F0 F:Fz}{g0 g:Gh}{H:af}{w0:World}:∀(l:List Nat) (w:World),l.Nodup→(∀D∈l,w0.heap.size≤D∧w.heap[D]?=some (.deferred (some []))∧¬g.has D)→
 az F g H w→Ext F0 g0 w0 F g w→(∀w',az F g H w'→Ext F0 g0 w0 F g w'→LeavesInM Fence.wide 0 P fn tmps R [] .returning w')→
 LeavesInM Fence.wide 0 P fn tmps R (l.map (fun D=>{ target:= .collected D,args:= #[]})) .returning w
 | [],w,_,_,hH,hE,h=>h w hH hE
 | D::l,w,hn,hl,hH,hE,h=>by
   obtain⟨h1,h2,h3⟩:=hl D List.mem_cons_self
   obtain⟨hn1,hn2⟩:=List.nodup_cons.1 hn
   refine⟨by simp,.inl ⟨D,_,rfl,run_takeDeferred h2,?_⟩⟩
   refine C0 l _ hn2 (fun E hEl=>?_) (hH.putObj h2 rfl h3 _) (hE.putObj h1 _) h
   obtain⟨k1,k2,k3⟩:=hl E (List.mem_cons_of_mem _ hEl)
   exact⟨k1,(World.putObj_heap_other (fun e:E=D=>hn1 (e▸hEl))).trans k2,k3⟩
end Go.Ev
namespace Go.Ev
open Go
variable [Names]
open Classical in
noncomputable def uv(F:Fz)(g:Gh)(H:af)(w:World)(A:List Nat):Fz:=fun b o=>
 match F b o with
 | some v=>some v
 | none=>if ∃id∈A,∃og sz pin ep es,g[id]?=some og∧H[id]?=some (.arr sz pin ep es)∧og.blk=some b∧o<es.length*sz
   then w.cell? ⟨b,o,none⟩else none
theorem tB(F:Fz)(g:Gh)(H:af)(w:World)(A:List Nat):mS F (uv F g H w A):=by
 intro b o v h;simp[uv,h]
theorem mH{F:Fz}{g:Gh}{H:af}{w:World}{A B:List Nat}(h:∀i∈A,i∈B):mS (uv F g H w A) (uv F g H w B):=by
 intro b o v hv
 unfold uv at*
 cases hF:F b o with
 | some u=>simp[hF]at hv ⊢;exact hv
 | none=>
   simp only[hF]at hv ⊢
   split at hv
   · rename_i hc
     obtain⟨id,hm,hr⟩:=hc
     rw[if_pos ⟨id,h id hm,hr⟩];exact hv
   · cases hv
theorem TD(F:Fz)(g:Gh)(H:af)(w:World):uv F g H w []=F:=by
 funext b o;unfold uv;cases F b o<;>simp
theorem NC{H:af}{f:Obj→Obj}{i j:Nat}:(H.modify i f)[j]?=if i=j then H[j]?.map f else H[j]?:=by
 rw[List.getElem?_modify]
 by_cases h:i=j
 · subst h;simp
 · simp[h]
theorem PL(o:Obj):Is (Is o)=Is o:=by cases o<;>rfl
theorem yN:∀ {A:List Nat} {H:af} {i:Nat},(pins H A)[i]?=if i∈A then H[i]?.map Is else H[i]?
 | [],H,i=>by simp[pins]
 | a::A,H,i=>by
   rw[pins,yN,NC]
   by_cases h1:a=i
   · subst h1
     by_cases h2:a∈A
     · simp only[h2,if_true,List.mem_cons,true_or]
       cases H[a]?<;>simp[PL]
     · simp[h2]
   · by_cases h2:i∈A
     · simp[h1,h2]
     · have:¬i=a:=fun e=>h1 e.symm
       simp[h1,h2,this]
theorem GP:∀ {A:List Nat} {H:af},(pins H A).length=H.length
 | [],H=>rfl
 | a::A,H=>by rw[pins,GP];simp
theorem XB(o:Obj):(Is o).sh=o.sh:=by cases o<;>rfl
theorem tC(A:List Nat)(H:af):shp (pins H A)=shp H:=by
 funext i
 unfold shp
 rw[yN]
 split
 · cases H[i]?<;>simp[XB]
 · rfl
theorem C1{H:af}:∀ {n:Nat} {d:D} {x:T},frz H n d=some x→x.cells.length=d.cells.length:=by
 intro n d x h
 cases n<;>cases d<;>simp only[frz,aLb,Option.some.injEq,reduceCtorEq]at h
 case zero.t y=>subst h;simp[D.cells]
 case zero.nil=>subst h;rfl
 case succ.t y=>subst h;simp[D.cells]
 case succ.nil=>subst h;rfl
 case succ.agg cs=>obtain⟨ts,hts,rfl⟩:=h;simp[D.cells,T.cells,(bI hts).1]
 case succ.ref=>obtain⟨ts,hts,rfl⟩:=h;rfl
 case succ.sub=>obtain⟨ts,hts,rfl⟩:=h;rfl
theorem wL{H:af}{n:Nat}{e:D}{x:T}(h:frz H n e=some x){k:Nat}{c:T}(hc:x.cells[k]?=some c):
 ∃d m,e.cells[k]?=some d∧frz H m d=some c∧m≤n∧(∀i∈gu H m d,i∈gu H n e):=by
 have leaf:∀ {d:D} {y:T},frz H n d=some y→y.cells=[y]→d.cells=[d]→y.cells[k]?=some c→∃d' m,d.cells[k]?=some d'∧frz H m d'=some c∧m≤n∧(∀i∈gu H m d',i∈gu H n d):=by
  intro d y hy h1 h2 h3
  rw[h1]at h3
  cases k with
  | zero=>simp at h3;subst h3;exact⟨d,n,by rw[h2];rfl,hy,aLs _,fun _ h=>h⟩
  | succ k=>simp at h3
 have tt:∀(y:T),y.cells[k]?=some c→∃d' m,(D.t y).cells[k]?=some d'∧frz H m d'=some c∧m≤n∧(∀i∈gu H m d',i∈gu H n (D.t y)):=by
  intro y hy
  exact⟨.t c,0,by simp[D.cells,hy],by simp[frz],Nat.zero_le _,by simp[gu]⟩
 have h0:=h
 cases n<;>cases e<;>simp only[frz,aLb,Option.some.injEq,reduceCtorEq]at h
 case zero.t y=>subst h;exact tt y hc
 case zero.nil=>subst h;exact leaf h0 rfl rfl hc
 case succ.t y=>subst h;exact tt y hc
 case succ.nil=>subst h;exact leaf h0 rfl rfl hc
 case succ.agg cs=>
  rename_i n
  obtain⟨ts,hts,rfl⟩:=h
  obtain⟨hl,hr⟩:=bI hts
  simp only[T.cells]at hc
  obtain⟨d,hd⟩:=ah hl.symm hc
  refine⟨d,n,hd,hr k d c hd hc,Nat.le_succ _,fun i hi=>?_⟩
  simp only[gu,List.mem_flatMap]
  exact⟨d,aLd hd,hi⟩
 case succ.ref=>obtain⟨ts,hts,rfl⟩:=h;exact leaf h0 rfl rfl hc
 case succ.sub=>obtain⟨ts,hts,rfl⟩:=h;exact leaf h0 rfl rfl hc
theorem eK{H:af}{id ep n:Nat}{a:Nat×Bool×List D}(h:fV H id ep n=some a):H[id]?=some (.arr a.1 a.2.1 ep a.2.2)∧n=a.2.2.length:=by
 unfold fV at h
 split at h
 · rename_i sz pin ep' es hH
   split at h
   · rename_i hc
     obtain⟨rfl,rfl⟩:=hc
     simp at h;subst h;exact⟨hH,rfl⟩
   · cases h
 · cases h
theorem CN{a b:Nat}:¬L0 a b a b:=by unfold L0;omega
theorem mm{H:af}{id:Nat}{o:Obj}(h:H[id]?=some o):shp H id=some o.sh:=by simp[shp,h]
theorem bF.vv{F:Fz}{g:Gh}{H:af}{v:Value}{id ep n:Nat}(h:bF F g (shp H) v (.ref id ep n)){sz:Nat}{pin:Bool}{es:List D}
 (hH:H[id]?=some (.arr sz pin ep es)) (hn:n=es.length):∃og,g[id]?=some og∧(og.blk=none→es.length=0)∧v=dE og n:=by
 cases h with
 | ref _ _ _ sz og hg hs hn2=>exact⟨og,hg,fun h=>by rw[← hn];exact hn2 h,rfl⟩
 | refOld a c _ _ _ sz ep' n' hs hp=>
   rw[mm hH]at hs;cases hs;subst hn;exact(CN hp).elim
theorem bF.Ao{F:Fz}{g:Gh}{H:af}{v:Value}{id ep n lo hi:Nat}(h:bF F g (shp H) v (.sub id ep n lo hi)){sz:Nat}{pin:Bool}{es:List D}
 (hH:H[id]?=some (.arr sz pin ep es)) (hn:n=es.length):
 (∃b c cap',g[id]?=some ⟨some b,c⟩∧lo<hi∧hi≤n∧hi-lo≤cap'∧v= .slice (some ⟨b,lo*sz,none⟩) (hi-lo) cap')∨(hi≤lo∧∃a cap',v= .slice a 0 cap'):=by
 cases h with
 | sub _ _ _ _ _ sz b c cap' a hg hs hlt hn' ha hcap=>
   rw[mm hH]at hs;cases hs
   exact .inl ⟨b,c,cap',hg,hlt,hn',hcap,by rw[ha]⟩
 | sub0 a _ _ _ _ _ cap' sz ep' n' hs he=>exact .inr ⟨he,a,cap',rfl⟩
 | subOld a c _ _ _ _ _ sz ep' n' hs hp=>
   rw[mm hH]at hs;cases hs;subst hn;exact(CN hp).elim
theorem Bm{i k n sz:Nat}(hi:i<n)(hk:k<sz):i*sz+k<n*sz:=by
 have:(i+1)*sz≤n*sz:=Nat.mul_le_mul_right _ hi
 rw[Nat.add_mul]at this;omega
theorem C2{F:Fz}{g:Gh}{H:af}{w:World}(hH:az F g H w):∀(n:Nat) {v:Value} {d:D} {x:T},bF F g (shp H) v d→frz H n d=some x→
 lP (uv F g H w (gu H n d)) v x:=by
 intro n
 induction n using Nat.strongRecOn with
 | _ n ih=>
 -- a part of a live array
 have part:∀(m:Nat),m<n→∀(id sz ep:Nat) (pin:Bool) (es:List D) (og:OG) (b lo len cap:Nat) (xs:List T) (A:List Nat),len≤cap→
  H[id]?=some (.arr sz pin ep es)→g[id]?=some og→og.blk=some b→lo+len≤es.length→cK (frz H m) ((es.drop lo).take len)=some xs→id∈A→
  (∀e∈es,∀i∈gu H m e,i∈A)→lP (uv F g H w A) (.slice (some ⟨b,lo*sz,none⟩) len cap) (.sl xs):=by
  intro m hm id sz ep pin es og b lo len cap xs A hcap hid hog hb hlen hxs hidA hA
  obtain⟨hl,hr⟩:=bI hxs
  have hlx:xs.length=len:=by rw[← hl];simp;omega
  have hf:=hH.fits id _ og hid hog
  simp only[Fits]at hf
  rcases hf with⟨h1,_⟩ | ⟨b',c,ty,hb',hc,hs,hle,hz,hcell,hfz⟩
  · rw[hb]at h1;cases h1
  · rw[hb]at hb';cases hb'
    have at_:∀i,i<len→∃e,es[lo+i]?=some e∧((es.drop lo).take len)[i]?=some e:=by
     intro i hi
     have h1:lo+i<es.length:=by omega
     exact⟨es[lo+i],aLc h1,by rw[aLo,if_pos hi,List.getElem?_drop,aLc h1]⟩
    have hx:∀i x,xs[i]?=some x→∃e,es[lo+i]?=some e∧frz H m e=some x:=by
     intro i x hx
     have:=aj hx
     obtain⟨e,he,he'⟩:=at_ i (by omega)
     exact⟨e,he,hr i e x he' hx⟩
    subst hlx
    refine .sl b (lo*sz) cap sz xs (fun i k=>(c[(lo+i)*sz+k]?).getD (.bool false)) hcap ?_ ?_ ?_
    · intro x hx'
      obtain⟨i,hi⟩:=aLf.1 hx'
      obtain⟨e,he,hfe⟩:=hx i x hi
      rw[C1 hfe];exact(hz e (aLd he)).1
    · intro i x k y hi hy
      obtain⟨e,he,hfe⟩:=hx i x hi
      obtain⟨d,m',hd,_,_,_⟩:=wL hfe hy
      obtain⟨v,hv,hlv,_⟩:=hcell (lo+i) e k d he hd
      have hk:k<sz:=by rw[← (hz e (aLd he)).1];exact aj hd
      have hlt:=Bm (n:=es.length) (aj he) hk
      have hoff:lo*sz+i*sz+k=(lo+i)*sz+k:=by rw[Nat.add_mul]
      rw[hoff,hv]
      refine⟨?_,by simpa using hlv⟩
      have hcell':w.cell? ⟨b,(lo+i)*sz+k,none⟩=some v:=by simp[World.cell?,hc,hv]
      unfold uv
      cases hF:F b ((lo+i)*sz+k)with
      | some u=>
        have:=hH.agree _ _ _ hF
        rw[hcell']at this
        simpa using this.symm
      | none=>
        simp only[]
        rw[if_pos ⟨id,hidA,og,sz,pin,ep,es,hog,hid,hb,hlt⟩,hcell'];rfl
    · intro i x k y hi hy
      obtain⟨e,he,hfe⟩:=hx i x hi
      obtain⟨d,m',hd,hfd,hm',hsub⟩:=wL hfe hy
      obtain⟨v,hv,hlv,hrel⟩:=hcell (lo+i) e k d he hd
      rw[hv]
      refine lP.mono (mH ?_) (ih m' (by omega) hrel hfd)
      intro j hj
      exact hA e (aLd he) j (hsub j hj)
 intro v d x hd hx
 cases n with
 | zero=>
   cases d<;>simp only[frz,Option.some.injEq,reduceCtorEq]at hx
   case t y=>subst hx;cases hd with | t _ _ h=>exact h.mono (tB F g H w _)
   case nil=>subst hx;cases hd;exact .sl0 _ _
 | succ n=>
   cases d<;>simp only[frz,aLb,Option.some.injEq,reduceCtorEq,aLa]at hx
   case t y=>subst hx;cases hd with | t _ _ h=>exact h.mono (tB F g H w _)
   case nil=>subst hx;cases hd;exact .sl0 _ _
   case agg cs=>
    obtain⟨ts,hts,rfl⟩:=hx
    obtain⟨hl,hr⟩:=bI hts
    cases hd with
    | agg vs _ hl' hv h=>
      refine .agg vs ts (hl'.trans hl) hv fun i v t hv' ht=>?_
      obtain⟨c,hc⟩:=ah hl.symm ht
      refine lP.mono (mH ?_) (ih n (by omega) (h i v c hv' hc) (hr i c t hc ht))
      intro j hj
      simp only[gu,List.mem_flatMap]
      exact⟨c,aLd hc,hj⟩
   case ref id ep m=>
    obtain⟨xs,⟨a,ha,hxs⟩,rfl⟩:=hx
    obtain⟨hid,hm⟩:=eK ha
    obtain⟨og,hog,hbn,rfl⟩:=hd.vv hid hm
    have hf:=(hH.fits id _ og hid hog).old hbn
    have hxl:=(bI hxs).1
    rcases hf with⟨h1,h2⟩ | ⟨b,c,ty,hb,_,_,hle,_⟩
    · rw[h2]at hxl
      have:xs=[]:=List.length_eq_zero_iff.1 hxl.symm
      subst this
      simp[dE,h1];exact .sl0 _ _
    · simp only[dE,hb]
      have hfull:(a.2.2.drop 0).take m=a.2.2:=by subst hm;simp
      have:=part n (Nat.lt_succ_self n) id a.1 ep a.2.1 a.2.2 og b 0 m og.cap xs (gu H (n+1) (.ref id ep m)) (by rw[hm];exact hle) hid hog hb (by omega) (by rw[hfull];exact hxs) (by simp[gu]) (by
       intro e he i hi
       simp only[gu,hid,List.mem_cons,List.mem_flatMap]
       exact .inr ⟨e,he,hi⟩)
      simpa using this
   case sub id ep m lo hi=>
    obtain⟨xs,⟨a,ha,hxs⟩,rfl⟩:=hx
    obtain⟨hid,hm⟩:=eK ha
    have hxl:=(bI hxs).1
    rcases hd.Ao hid hm with⟨b,c,cap',hog,hlt,hn,hcap,rfl⟩ | ⟨he,a',cap',rfl⟩
    · exact part n (Nat.lt_succ_self n) id a.1 ep a.2.1 a.2.2 _ b lo (hi-lo) cap' xs (gu H (n+1) (.sub id ep m lo hi)) hcap hid hog rfl (by omega) hxs (by simp[gu]) (by
       intro e he i hi
       simp only[gu,hid,List.mem_cons,List.mem_flatMap]
       exact .inr ⟨e,he,hi⟩)
    · have:hi-lo=0:=by omega
      rw[this]at hxl
      have:xs=[]:=List.length_eq_zero_iff.1 (by simpa using hxl.symm)
      subst this;exact .sl0 _ _
theorem az.frz{F:Fz}{g:Gh}{H:af}{w:World}(h:az F g H w)(A:List Nat):az (uv F g H w A) g (pins H A) w where
 len:=by rw[GP];exact h.len
 sep:=h.sep
 agree b o v hv:=by
  unfold uv at hv
  cases hF:F b o with
  | some u=>simp[hF]at hv;subst hv;exact h.agree b o u hF
  | none=>
    simp only[hF]at hv
    split at hv
    · exact hv
    · cases hv
 fits i o og ho hg:=by
  rw[yN]at ho
  have key:∀b,og.blk=some b→∀o v,uv F g H w A b o=some v→F b o=some v∨(i∈A∧∃sz pin ep es,H[i]?=some (.arr sz pin ep es)∧o<es.length*sz):=by
   intro b hb o v hv
   unfold uv at hv
   cases hF:F b o with
   | some u=>simp[hF]at hv;subst hv;exact .inl rfl
   | none=>
     simp only[hF]at hv
     split at hv
     · rename_i hc
       obtain⟨id,hm,og',sz,pin,ep,es,h1,h2,h3,h4⟩:=hc
       by_cases e:id=i
       · subst e;exact .inr ⟨hm,sz,pin,ep,es,h2,h4⟩
       · exact(h.sep id i og' og b e h1 hg h3 hb).elim
     · cases hv
  have hsub:=tB F g H w A
  have hS:shp (pins H A)=shp H:=tC A H
  obtain⟨o0,ho0,hf⟩:=h.ob hg
  have ho':o=if i∈A then Is o0 else o0:=by
   rw[ho0]at ho
   split at ho<;>simp_all
  subst ho'
  have rel:∀ {v d},bF F g (shp H) v d→bF (uv F g H w A) g (shp (pins H A)) v d:=fun hr=>by
   rw[hS];exact hr.aft hsub (Aft.refl g H)
  cases o0 with
  | box cs=>
    have:(if i∈A then Is (.box cs)else .box cs)=Obj.box cs:=by split<;>rfl
    rw[this]
    rcases hf with⟨h0,c,hs,hr⟩ | ⟨b,c,ty,hb,hc,hs,hr,hz⟩
    · exact .inl ⟨h0,c,hs,fun i v d hv hd=>⟨(hr i v d hv hd).1,rel (hr i v d hv hd).2⟩⟩
    refine .inr ⟨b,c,ty,hb,hc,hs,fun i v d hv hd=>⟨(hr i v d hv hd).1,rel (hr i v d hv hd).2⟩,fun o=>?_⟩
    cases hv:uv F g H w A b o with
    | none=>rfl
    | some v=>
      rcases key b hb o v hv with h1 | ⟨_,sz,pin,ep,es,h2,_⟩
      · rw[hz o]at h1;cases h1
      · rw[ho0]at h2;cases h2
  | arr sz pin ep es=>
    have:(if i∈A then Is (.arr sz pin ep es)else .arr sz pin ep es)=Obj.arr sz (pin||decide (i∈A)) ep es:=by
     by_cases hi:i∈A<;>simp[hi,Is]
    rw[this]
    rcases hf with hf | ⟨b,c,ty,hb,hc,hs,hl,hz,hr,hfz⟩
    · exact .inl hf
    · refine .inr ⟨b,c,ty,hb,hc,hs,hl,hz,fun i e k d he hd=>let⟨v,h1,h2,h3⟩:=hr i e k d he hd;⟨v,h1,h2,rel h3⟩,fun o v hv=>?_⟩
      rcases key b hb o v hv with h1 | ⟨hA,sz',pin',ep',es',h2,h3⟩
      · obtain⟨h4,h5⟩:=hfz o v h1;exact⟨by simp[h4],h5⟩
      · rw[ho0]at h2;cases h2;exact⟨by simp[hA],h3⟩
  | own ep=>
    have:(if i∈A then Is (.own ep)else .own ep)=Obj.own ep:=by split<;>rfl
    rw[this]
    obtain⟨b,c,ty,e,hb,hc,h1,h2,h3,h4⟩:=hf
    refine⟨b,c,ty,e,hb,hc,h1,h2,h3,fun o v hv=>?_⟩
    rcases key b hb o v hv with h5 | ⟨_,sz,pin,ep',es,h6,_⟩
    · exact h4 o v h5
    · rw[ho0]at h6;cases h6
theorem Ext.frz{F:Fz}{g:Gh}{H:af}{w:World}(A:List Nat):Ext F g w (uv F g H w A) g w where
 io:=⟨rfl,rfl⟩
 sub:=tB F g H w A
 size:=aLs _
 keep _ _ _:=rfl
 blks _ h:= .inl h
 newF b o v hv:=by
  unfold uv at hv
  cases hF:F b o with
  | some u=>simp[hF]at hv;subst hv;exact .inl rfl
  | none=>
    simp only[hF]at hv
    split at hv
    · rename_i hc
      obtain⟨id,hm,og',sz,pin,ep,es,h1,h2,h3,h4⟩:=hc
      exact .inr (.inl ⟨og',aLd h1,h3⟩)
    · cases hv
theorem Aft.pins(g:Gh)(H:af)(A:List Nat):Aft g H g (pins H A):=by
 show rm some g (shp H) g (shp (Ev.pins H A))
 rw[tC];exact Aft.refl g H
theorem Ren.Iz{f:Nat→Option Nat}{d d':D}(h:Ren f d d'):d'.cells.length=d.cells.length:=by
 cases h<;>simp_all [D.cells]
theorem Ren.lO{f:Nat→Option Nat}{d d':D}(h:Ren f d d'):d'.lO=d.lO:=by
 cases h<;>rfl
theorem Ren.cell{f:Nat→Option Nat}{d d':D}(h:Ren f d d'){k:Nat}{c c':D}(hc:d.cells[k]?=some c)(hc':d'.cells[k]?=some c'):Ren f c c':=by
 have one:∀ {a b:D},Ren f a b→a.cells=[a]→b.cells=[b]→a.cells[k]?=some c→b.cells[k]?=some c'→Ren f c c':=by
  intro a b hab h1 h2 h3 h4
  rw[h1]at h3;rw[h2]at h4
  cases k with
  | zero=>simp at h3 h4;subst h3;subst h4;exact hab
  | succ k=>simp at h3
 cases h with
 | t x=>
   simp[D.cells]at hc hc'
   obtain⟨a,ha,rfl⟩:=hc
   obtain⟨b,hb,rfl⟩:=hc'
   rw[ha]at hb;cases hb;exact .t a
 | agg cs ds hl h=>exact h k c c' hc hc'
 | nil=>exact one .nil rfl rfl hc hc'
 | bp id off j h=>exact one (.bp id off j h) rfl rfl hc hc'
 | ap id ep n i off j h=>exact one (.ap id ep n i off j h) rfl rfl hc hc'
 | ep cs=>exact one (.ep cs) rfl rfl hc hc'
 | ref id ep n j h=>exact one (.ref id ep n j h) rfl rfl hc hc'
 | sub id ep n lo hi j h=>exact one (.sub id ep n lo hi j h) rfl rfl hc hc'
 | fn g cs ds hl h=>exact one (.fn g cs ds hl h) rfl rfl hc hc'
 | tup cs ds hl h=>exact one (.tup cs ds hl h) rfl rfl hc hc'
 | nilp=>exact one .nilp rfl rfl hc hc'
 | und=>exact one .und rfl rfl hc hc'
 | ub=>exact one .ub rfl rfl hc hc'
 | cl es=>exact one (.cl es) rfl rfl hc hc'
 | q id ep j es h=>exact one (.q id ep j es h) rfl rfl hc hc'
inductive L4(f:Nat→Option Nat):Obj→Obj→Prop
 | box (cs ds:List D) (hl:cs.length=ds.length) (h:∀(i:Nat) c d,cs[i]?=some c→ds[i]?=some d→Ren f c d):L4 f (.box cs) (.box ds)
 | arr (sz:Nat) (pin:Bool) (ep:Nat) (cs ds:List D) (hl:cs.length=ds.length) (h:∀(i:Nat) c d,cs[i]?=some c→ds[i]?=some d→Ren f c d):
  L4 f (.arr sz pin ep cs) (.arr sz pin ep ds)
 | own (ep:Nat):L4 f (.own ep) (.own ep)
theorem xY{f:Nat→Option Nat}{o o':Obj}(h:jB f o=some o'):L4 f o o':=by
 cases o with
 | box cs=>
   simp only[jB,aLb]at h
   obtain⟨ds,hds,rfl⟩:=h
   exact .box cs ds (bI hds).1 fun i c d hc hd=>GN ((bI hds).2 i c d hc hd)
 | arr sz pin ep cs=>
   simp only[jB,aLb]at h
   obtain⟨ds,hds,rfl⟩:=h
   exact .arr sz pin ep cs ds (bI hds).1 fun i c d hc hd=>GN ((bI hds).2 i c d hc hd)
 | own ep=>
   simp only[jB,Option.some.injEq]at h
   subst h;exact .own ep
theorem L4.sh{f:Nat→Option Nat}{o o':Obj}(h:L4 f o o'):o'.sh=o.sh:=by
 cases h with
 | box cs ds hl h=>rfl
 | arr sz pin ep cs ds hl h=>simp[Obj.sh,hl]
 | own ep=>rfl
theorem Fits.later{F F':Fz}{g g':Gh}{S S':Nat→Option Sh}{w w':World}{og:OG}{o o':Obj}{f:Nat→Option Nat}(h:Fits F g S w og o)(hr:L4 f o o')
 (hL:rm f g S g' S') (hF:mS F F') (hF':∀b,og.blk=some b→∀o v,F' b o=some v→F b o=some v)
 (hw:∀b,og.blk=some b→w'.heap[b]?=w.heap[b]?):Fits F' g' S' w' og o':=by
 cases hr with
 | own ep=>
   obtain⟨b,c,ty,e,hb,hc,h1,h2,h3,h4⟩:=h
   exact⟨b,c,ty,e,hb,(hw b hb).trans hc,h1,h2,h3,fun o v hv=>h4 o v (hF' b hb o v hv)⟩
 | box cs ds hl hr=>
   rcases h with⟨h0,c,hs,hv⟩ | ⟨b,c,ty,hb,hc,hs,hv,hf⟩
   · refine .inl ⟨h0,c,hs.trans hl,fun i v d hv' hd=>?_⟩
     obtain⟨e,he⟩:=ah hl.symm hd
     obtain⟨h1,h2⟩:=hv i v e hv' he
     exact⟨h1,h2.later hF hL (hr i e d he hd)⟩
   refine .inr ⟨b,c,ty,hb,(hw b hb).trans hc,hs.trans hl,fun i v d hv' hd=>?_,fun o=>?_⟩
   · obtain⟨e,he⟩:=ah hl.symm hd
     obtain⟨h1,h2⟩:=hv i v e hv' he
     exact⟨h1,h2.later hF hL (hr i e d he hd)⟩
   · cases hv:F' b o with
     | none=>rfl
     | some v=>have:=hF' b hb o v hv;rw[hf o]at this;cases this
 | arr sz pin ep cs ds hl hr=>
   rcases h with⟨h1,h2⟩ | ⟨b,c,ty,hb,hc,hs,hle,hz,hcell,hf⟩
   · rcases h2 with rfl | h2
     · exact .inl ⟨h1,.inl (List.length_eq_zero_iff.1 hl.symm)⟩
     · refine .inl ⟨h1,.inr fun d hd=>?_⟩
       obtain⟨i,hi⟩:=aLf.1 hd
       obtain⟨e,he⟩:=ah hl.symm hi
       obtain⟨x,rfl⟩:=h2 e (aLd he)
       have:=hr i _ d he hi
       cases this
       exact⟨x,rfl⟩
   · refine .inr ⟨b,c,ty,hb,(hw b hb).trans hc,hs,hl▸hle,?_,?_,fun o v hv=>?_⟩
     · intro d hd
       obtain⟨i,hi⟩:=aLf.1 hd
       obtain⟨e,he⟩:=ah hl.symm hi
       have:=hr i e d he hi
       obtain⟨h1,h2⟩:=hz e (aLd he)
       exact⟨this.Iz.trans h1,this.lO.trans h2⟩
     · intro i d k x hd hx
       obtain⟨e,he⟩:=ah hl.symm hd
       have hrn:=hr i e d he hd
       obtain⟨y,hy⟩:=ah hrn.Iz hx
       obtain⟨v,h1,h2,h3⟩:=hcell i e k y he hy
       exact⟨v,h1,h2,h3.later hF hL (hrn.cell hy hx)⟩
     · obtain⟨h1,h2⟩:=hf o v (hF' b hb o v hv)
       exact⟨h1,hl▸h2⟩
theorem yO:∀ {sel:List Nat} {i j:Nat},idxOf sel i=some j→sel[j]?=some i
 | [],i,j,h=>by cases h
 | a::sel,i,j,h=>by
   unfold idxOf at h
   split at h
   · rename_i e;cases h;simp[e]
   · obtain⟨k,hk,rfl⟩:=aLb.1 h
     simpa using yO hk
theorem pD:∀ {l sel:List Nat},sel.Nodup→(ir sel l).Nodup
 | [],sel,h=>h
 | a::l,sel,h=>by
   unfold ir
   split
   · exact pD h
   · rename_i hc
     refine pD ?_
     rw[List.nodup_append]
     refine⟨h,by simp,fun x hx y hy e=>?_⟩
     simp at hy;subst hy;subst e
     exact hc (by simpa using hx)
theorem C3{H:af}:∀(n:Nat) (sel:List Nat),sel.Nodup→(reach H n sel).Nodup
 | 0,_,h=>h
 | n+1,sel,h=>C3 n (ir sel (vu H sel)) (pD h)
theorem IA{l:List Nat}(h:l.Nodup){i j:Nat}{x:Nat}(hi:l[i]?=some x)(hj:l[j]?=some x):i=j:=by
 have h1:=aj hi
 have h2:=aj hj
 rw[aLc h1]at hi
 rw[aLc h2]at hj
 cases hi
 have hp:=List.pairwise_iff_getElem.1 h
 rcases Nat.lt_trichotomy i j with hlt | e | hgt
 · have:=hp i j h1 h2 hlt
   simp at hj;exact(this hj.symm).elim
 · exact e
 · have:=hp j i h2 h1 hgt
   simp at hj;exact(this hj).elim
theorem CO:∀ {sel:List Nat} {H hs:af},pick H sel=some hs→hs.length=sel.length∧∀(j i:Nat),sel[j]?=some i→hs[j]?=H[i]?
 | [],H,hs,h=>by simp[pick]at h;subst h;simp
 | a::sel,H,hs,h=>by
   simp only[pick,aLa,aLb]at h
   obtain⟨o,ho,r,hr,rfl⟩:=h
   obtain⟨h1,h2⟩:=CO hr
   refine⟨by simp[h1],fun j i hj=>?_⟩
   cases j with
   | zero=>simp at hj;subst hj;simp[ho]
   | succ j=>simp at hj;simpa using h2 j i hj
def EP(g:Gh)(sel:List Nat):Gh:=sel.map fun i=>g.getD i ⟨none,0⟩
theorem TE{g:Gh}{sel:List Nat}{j i:Nat}(h:sel[j]?=some i)(hi:i<g.length):(EP g sel)[j]?=g[i]?:=by
 simp[EP,h,List.getD,aLc hi]
theorem L5{g:Gh}{sel:List Nat}{b:Nat}(h:(EP g sel).has b):∃i∈sel,∃og,g[i]?=some og∧og.blk=some b:=by
 obtain⟨og,hm,hb⟩:=h
 simp only[EP,List.mem_map]at hm
 obtain⟨i,hi,rfl⟩:=hm
 cases hg:g[i]? with
 | none=>simp[List.getD,hg]at hb
 | some og=>exact⟨i,hi,og,hg▸rfl,by simpa [List.getD,hg]using hb⟩
theorem az.part{F:Fz}{g:Gh}{H:af}{w:World}(h:az F g H w){sel:List Nat}(hn:sel.Nodup){hs hs':af}
 (hl:hs.length=sel.length) (hsh:∀(j i:Nat) o,sel[j]?=some i→hs[j]?=some o→∃o0,H[i]?=some o0∧o.sh=o0.sh)
 (hfit:∀(j i:Nat) o og,sel[j]?=some i→hs[j]?=some o→g[i]?=some og→Fits F g (shp H) w og o)
 (hr:hs.length=hs'.length∧∀(j:Nat) o o',hs[j]?=some o→hs'[j]?=some o'→L4 (idxOf sel) o o'):
 az F (EP g sel) hs' w∧rm (idxOf sel) g (shp H) (EP g sel) (shp hs')∧
  (∀(j i:Nat),sel[j]?=some i→shp hs' j=shp H i∧(EP g sel)[j]?=g[i]?):=by
 have same:∀(j i:Nat),sel[j]?=some i→shp hs' j=shp H i∧(EP g sel)[j]?=g[i]?:=by
  intro j i hj
  obtain⟨o,ho⟩:=ah hl.symm hj
  obtain⟨o0,ho0,hsh0⟩:=hsh j i o hj ho
  obtain⟨o',ho'⟩:=ah hr.1 ho
  exact⟨by rw[mm ho',(hr.2 j o o' ho ho').sh,hsh0,mm ho0],TE hj (h.len▸aj ho0)⟩
 have hL:rm (idxOf sel) g (shp H) (EP g sel) (shp hs'):=by
  constructor
  · intro id j hj hs
    obtain⟨h1,h2⟩:=same j id (yO hj)
    exact⟨h1.trans hs,h2⟩
  · intro id j sz ep n hj hs
    obtain⟨h1,h2⟩:=same j id (yO hj)
    exact⟨sz,ep,n,h1.trans hs,.inr ⟨rfl,rfl,rfl,h2⟩⟩
  · intro id j ep hj hs
    obtain⟨h1,h2⟩:=same j id (yO hj)
    exact⟨ep,h1.trans hs,.inr ⟨rfl,h2⟩⟩
 refine⟨⟨?_,?_,?_,h.agree⟩,hL,same⟩
 · rw[← hr.1,hl];simp[EP]
 · intro j o' og ho' hog
   obtain⟨o,ho⟩:=ah hr.1.symm ho'
   obtain⟨i,hi⟩:=ah hl ho
   rw[(same j i hi).2]at hog
   exact(hfit j i o og hi ho hog).later (hr.2 j o o' ho ho') hL (mS.refl F) (fun _ _ _ _ h=>h) fun _ _=>rfl
 · intro j j' og og' b hne hj hj' hb hb'
   have g1:=aj hj
   have g2:=aj hj'
   simp[EP]at g1 g2
   have e1:sel[j]?=some sel[j]:=aLc g1
   have e2:sel[j']?=some sel[j']:=aLc g2
   rw[(same j _ e1).2]at hj
   rw[(same j' _ e2).2]at hj'
   refine h.sep _ _ og og' b (fun e=>hne ?_) hj hj' hb hb'
   rw[← e]at e2
   exact IA hn e1 e2
theorem gN{α:Type}:∀ {sel:List Nat} {l os:List α},(dH l sel os).length=l.length
 | [],l,os=>by simp[dH]
 | a::sel,l,[]=>by simp[dH]
 | a::sel,l,o::os=>by rw[dH,gN];simp
theorem tD{α:Type}:∀ {sel:List Nat} {l os:List α} {i:Nat},i∉sel→(dH l sel os)[i]?=l[i]?
 | [],l,os,i,_=>by simp[dH]
 | a::sel,l,[],i,_=>by simp[dH]
 | a::sel,l,o::os,i,h=>by
   simp only[List.mem_cons,not_or]at h
   rw[dH,tD h.2,aLi (fun e=>h.1 e.symm)]
theorem Aq{α:Type}:∀ {sel:List Nat} {l os:List α} {i j:Nat},sel.Nodup→os.length=sel.length→sel[j]?=some i→i<l.length→(dH l sel os)[i]?=os[j]?
 | [],l,os,i,j,_,_,h,_=>by simp at h
 | a::sel,l,[],i,j,_,hl,_,_=>by simp at hl
 | a::sel,l,o::os,i,j,hn,hl,hj,hi=>by
   simp only[List.nodup_cons]at hn
   rw[dH]
   cases j with
   | zero=>
     simp at hj;subst hj
     rw[tD hn.1,aLj hi];rfl
   | succ j=>
     simp at hj hl
     rw[Aq hn.2 hl hj (by simpa using hi)];rfl
theorem vw{sel:List Nat}{n j:Nat}(h:j<sel.length):fO sel n j=sel[j]?:=by simp[fO,h]
theorem IB{sel:List Nat}{n j:Nat}(h:sel.length≤j):fO sel n j=some (n+(j-sel.length)):=by
 have:¬j<sel.length:=by omega
 simp[fO,this]
theorem tE{g:Gh}{sel:List Nat}{b:Nat}(h:(EP g sel).has b):g.has b:=by
 obtain⟨i,_,og,hg,hb⟩:=L5 h
 exact⟨og,aLd hg,hb⟩
theorem az.merge{F F':Fz}{g gc:Gh}{H hs' out os:af}{w w':World}{sel:List Nat}(h:az F g H w)(hn:sel.Nodup)(hlt:∀i∈sel,i<H.length)
 (_hl:hs'.length=sel.length) (hsame:∀(j i:Nat),sel[j]?=some i→shp hs' j=shp H i∧(EP g sel)[j]?=g[i]?)
 (hc:az F' gc out w') (hx:Ext F (EP g sel) w F' gc w') (ha:Aft (EP g sel) hs' gc out)
 (hr:out.length=os.length∧∀(j:Nat) o o',out[j]?=some o→os[j]?=some o'→L4 (fO sel H.length) o o') (hk:sel.length≤out.length):
 ∃gm,az F' gm (dH H sel (os.take sel.length)++os.drop sel.length) w'∧Ext F g w F' gm w'∧
  Aft g H gm (dH H sel (os.take sel.length)++os.drop sel.length)∧
  rm (fO sel H.length) gc (shp out) gm (shp (dH H sel (os.take sel.length)++os.drop sel.length)):=by
 have hgl:(EP g sel).length=sel.length:=by simp[EP]
 have hgc:gc.length=out.length:=hc.len
 have hol:(os.take sel.length).length=sel.length:=by simp;omega
 have hgl':(gc.take sel.length).length=sel.length:=by simp;omega
 generalize hM:dH H sel (os.take sel.length)++os.drop sel.length=M
 let gm:Gh:=dH g sel (gc.take sel.length)++gc.drop sel.length
 have hMl:M.length=H.length+(os.length-sel.length):=by rw[← hM];simp[gN]
 have hgml:gm.length=H.length+(gc.length-sel.length):=by simp[gm,gN,h.len]
 -- old objects that were not handed over
 have A:∀i,i<H.length→i∉sel→M[i]?=H[i]?∧gm[i]?=g[i]?:=by
  intro i hi hs
  constructor
  · rw[← hM,aLg (by rw[gN];exact hi),tD hs]
  · rw[aLg (by rw[gN,h.len];exact hi),tD hs]
 have BC:∀j,j<out.length→∃i,fO sel H.length j=some i∧M[i]?=os[j]?∧gm[i]?=gc[j]?:=by
  intro j hj
  by_cases hjk:j<sel.length
  · have e1:sel[j]?=some sel[j]:=aLc hjk
    have hi:=hlt _ (aLd e1)
    refine⟨sel[j],by rw[vw hjk,e1],?_,?_⟩
    · rw[← hM,aLg (by rw[gN];exact hi),Aq hn hol e1 hi,aLo,if_pos hjk]
    · rw[aLg (by rw[gN,h.len];exact hi),Aq hn hgl' e1 (h.len▸hi),aLo,if_pos hjk]
  · have hjk':sel.length≤j:=by omega
    refine⟨_,IB hjk',?_,?_⟩
    · rw[← hM,aLh (by rw[gN];omega),gN,List.getElem?_drop]
      congr 1;omega
    · rw[aLh (by rw[gN,h.len];omega),gN,List.getElem?_drop,h.len]
      congr 1;omega
 have cov:∀i,i<M.length→(i<H.length∧i∉sel)∨∃j,j<out.length∧fO sel H.length j=some i:=by
  intro i hi
  by_cases h1:i<H.length
  · by_cases h2:i∈sel
    · obtain⟨j,hj⟩:=aLf.1 h2
      exact .inr ⟨j,Nat.lt_of_lt_of_le (aj hj) hk,by rw[vw (aj hj),hj]⟩
    · exact .inl ⟨h1,h2⟩
  · refine .inr ⟨i-H.length+sel.length,by omega,?_⟩
    rw[IB (by omega)];congr 1;omega
 have hS:∀j,j<out.length→∃i,fO sel H.length j=some i∧shp M i=shp out j∧gm[i]?=gc[j]?:=by
  intro j hj
  obtain⟨i,h1,h2,h3⟩:=BC j hj
  refine⟨i,h1,?_,h3⟩
  have e1:out[j]?=some out[j]:=aLc hj
  obtain⟨o',ho'⟩:=ah hr.1 e1
  rw[mm e1,mm (h2.trans ho'),(hr.2 j _ _ e1 ho').sh]
 have hLb:rm (fO sel H.length) gc (shp out) gm (shp M):=by
  constructor
  · intro j i hj hs
    obtain⟨i',h1,h2,h3⟩:=hS j (gA hs)
    rw[hj]at h1;cases h1
    exact⟨h2.trans hs,h3⟩
  · intro j i sz ep n hj hs
    obtain⟨i',h1,h2,h3⟩:=hS j (gA hs)
    rw[hj]at h1;cases h1
    exact⟨sz,ep,n,h2.trans hs,.inr ⟨rfl,rfl,rfl,h3⟩⟩
  · intro j i ep hj hs
    obtain⟨i',h1,h2,h3⟩:=hS j (gA hs)
    rw[hj]at h1;cases h1
    exact⟨ep,h2.trans hs,.inr ⟨rfl,h3⟩⟩
 have hAf:Aft g H gm M:=by
  constructor
  · intro i j hj hs
    cases hj
    by_cases hi:i∈sel
    · obtain⟨j,hj⟩:=aLf.1 hi
      obtain⟨s1,s2⟩:=hsame j i hj
      obtain⟨t1,t2⟩:=ha.box j j rfl (s1.trans hs)
      obtain⟨i',h1,h2,h3⟩:=hS j (gA t1)
      rw[vw (aj hj),hj]at h1;cases h1
      exact⟨h2.trans t1,h3.trans (t2.trans s2)⟩
    · obtain⟨h1,h2⟩:=A i (gA hs) hi
      exact⟨by simpa [shp,h1]using hs,h2⟩
  · intro i j sz ep n hj hs
    cases hj
    by_cases hi:i∈sel
    · obtain⟨j,hj⟩:=aLf.1 hi
      obtain⟨s1,s2⟩:=hsame j i hj
      obtain⟨sz',ep',n',t1,t2⟩:=ha.arr j j sz ep n rfl (s1.trans hs)
      obtain⟨i',h1,h2,h3⟩:=hS j (gA t1)
      rw[vw (aj hj),hj]at h1;cases h1
      refine⟨sz',ep',n',h2.trans t1,?_⟩
      rcases t2 with t2 | ⟨a,b,c,d⟩
      · exact .inl t2
      · exact .inr ⟨a,b,c,h3.trans (d.trans s2)⟩
    · obtain⟨h1,h2⟩:=A i (gA hs) hi
      exact⟨sz,ep,n,by simpa [shp,h1]using hs,.inr ⟨rfl,rfl,rfl,h2⟩⟩
  · intro i j ep hj hs
    cases hj
    by_cases hi:i∈sel
    · obtain⟨j,hj⟩:=aLf.1 hi
      obtain⟨s1,s2⟩:=hsame j i hj
      obtain⟨ep',t1,t2⟩:=ha.own j j ep rfl (s1.trans hs)
      obtain⟨i',h1,h2,h3⟩:=hS j (gA t1)
      rw[vw (aj hj),hj]at h1;cases h1
      refine⟨ep',h2.trans t1,?_⟩
      rcases t2 with t2 | ⟨a,d⟩
      · exact .inl t2
      · exact .inr ⟨a,h3.trans (d.trans s2)⟩
    · obtain⟨h1,h2⟩:=A i (gA hs) hi
      exact⟨ep,by simpa [shp,h1]using hs,.inr ⟨rfl,h2⟩⟩
 -- a block of an object that was not handed over
 have untouched:∀i og b,i<H.length→i∉sel→g[i]?=some og→og.blk=some b→¬(EP g sel).has b∧b<w.heap.size:=by
  intro i og b hi hs hog hb
  refine⟨fun hh=>?_,h.lt ⟨og,aLd hog,hb⟩⟩
  obtain⟨i',hi',og',hg',hb'⟩:=L5 hh
  exact h.sep i i' og og' b (fun e=>hs (e▸hi')) hog hg' hb hb'
 refine⟨gm,⟨?_,?_,?_,hc.agree⟩,?_,hAf,hLb⟩
 · rw[hMl,hgml,hgc,hr.1]
 · intro i o og ho hog
   rcases cov i (aj ho)with⟨hi,hs⟩ | ⟨j,hj,hb⟩
   · obtain⟨h1,h2⟩:=A i hi hs
     rw[h1]at ho;rw[h2]at hog
     have hf:=h.fits i o og ho hog
     have hid:L4 some o o:=by
      cases o with
      | own ep=>exact .own ep
      | box cs=>
        obtain⟨c,hsz,hv⟩:=hf.Kk
        refine .box cs cs rfl fun k x y hx hy=>?_
        rw[hx]at hy;cases hy
        have:k<c.size:=hsz▸aj hx
        exact(hv k _ x (Array.getElem?_eq_getElem this) hx).2.same
      | arr sz pin ep es=>
        refine .arr sz pin ep es es rfl fun k x y hx hy=>?_
        rw[hx]at hy;cases hy
        rcases hf with⟨_,he⟩ | ⟨b,c,ty,hb,hc,hsz,hle,hz,hcell,_⟩
        · rcases he with rfl | he
          · simp at hx
          · obtain⟨y,rfl⟩:=he x (aLd hx)
            exact .t y
        · -- the element's cells stand for values
          have hsol:=(hz x (aLd hx)).2
          have hcells:∀(q:Nat) d,x.cells[q]?=some d→Ren some d d:=fun q d hq=>by
           obtain⟨v,_,_,h3⟩:=hcell k x q d hx hq
           exact h3.same
          cases x with
          | t x=>exact .t x
          | nil=>exact .nil
          | agg cs=>exact .agg cs cs rfl fun q a b ha hb=>by rw[ha]at hb;cases hb;exact hcells q a ha
          | bp id off=>exact .bp _ _ _ rfl
          | ap id ep n i off=>exact .ap _ _ _ _ _ _ rfl
          | ep cs=>exact .ep cs
          | ref id ep n=>exact .ref _ _ _ _ rfl
          | sub id ep n lo hi=>exact .sub _ _ _ _ _ _ rfl
          | fn f cs=>exact hcells 0 (.fn f cs) rfl
          | tup cs=>simp[D.lO]at hsol
          | nilp=>exact .nilp
          | und=>exact .und
          | ub=>exact .ub
          | cl es=>exact .cl es
          | q id ep es=>exact .q _ _ _ _ rfl
     refine hf.later hid hAf hx.sub (fun b hb q v hv=>?_) fun b hb=>?_
     · obtain⟨u1,u2⟩:=untouched i og b hi hs hog hb
       rcases hx.newF b q v hv with h3 | h3 | h3
       · exact h3
       · exact(u1 h3).elim
       · omega
     · obtain⟨u1,u2⟩:=untouched i og b hi hs hog hb
       exact hx.keep b u2 u1
   · obtain⟨i',h1,h2,h3⟩:=BC j hj
     rw[hb]at h1;cases h1
     rw[h2]at ho;rw[h3]at hog
     have e1:out[j]?=some out[j]:=aLc hj
     exact(hc.fits j _ og e1 hog).later (hr.2 j _ o e1 ho) hLb (mS.refl F') (fun _ _ _ _ h=>h) fun _ _=>rfl
 · intro i i' og og' b hne hi hi' hb hb'
   have li:=aj hi
   have li':=aj hi'
   rw[hgml,hgc,hr.1,←hMl]at li li'
   have mixed:∀i i' og og',i<H.length→i∉sel→gm[i]?=some og→og.blk=some b→(∃j,j<out.length∧fO sel H.length j=some i')→gm[i']?=some og'→og'.blk=some b→False:=by
    intro i i' og og' hi1 hi2 hi hb ⟨j,hj,hbk⟩ hi' hb'
    rw[(A i hi1 hi2).2]at hi
    obtain⟨u1,u2⟩:=untouched i og b hi1 hi2 hi hb
    obtain⟨i2,h1,h2,h3⟩:=BC j hj
    rw[hbk]at h1;cases h1
    rw[h3]at hi'
    rcases hx.blks b ⟨og',aLd hi',hb'⟩with h4 | h4
    · exact u1 h4
    · omega
   rcases cov i li with⟨c1,c2⟩ | ⟨j,hj,hbk⟩
   · rcases cov i' li' with⟨d1,d2⟩ | hj'
     · rw[(A i c1 c2).2]at hi
       rw[(A i' d1 d2).2]at hi'
       exact h.sep i i' og og' b hne hi hi' hb hb'
     · exact mixed i i' og og' c1 c2 hi hb hj' hi' hb'
   · rcases cov i' li' with⟨d1,d2⟩ | ⟨j',hj',hbk'⟩
     · exact mixed i' i og' og d1 d2 hi' hb' ⟨j,hj,hbk⟩ hi hb
     · obtain⟨i2,h1,h2,h3⟩:=BC j hj
       rw[hbk]at h1;cases h1
       obtain⟨i3,k1,k2,k3⟩:=BC j' hj'
       rw[hbk']at k1;cases k1
       rw[h3]at hi;rw[k3]at hi'
       exact hc.sep j j' og og' b (fun e=>hne (by subst e;rw[hbk]at hbk';cases hbk';rfl)) hi hi' hb hb'
 · constructor
   · exact hx.sub
   · exact hx.size
   · exact fun b hb hg=>hx.keep b hb fun hh=>hg (tE hh)
   · intro b hb
     obtain⟨og,hm,hbb⟩:=hb
     obtain⟨i,hi⟩:=aLf.1 hm
     have li:=aj hi
     rw[hgml,hgc,hr.1,←hMl]at li
     rcases cov i li with⟨c1,c2⟩ | ⟨j,hj,hbk⟩
     · rw[(A i c1 c2).2]at hi
       exact .inl ⟨og,aLd hi,hbb⟩
     · obtain⟨i2,h1,h2,h3⟩:=BC j hj
       rw[hbk]at h1;cases h1
       rw[h3]at hi
       rcases hx.blks b ⟨og,aLd hi,hbb⟩with h4 | h4
       · exact .inl (tE h4)
       · exact .inr h4
   · intro b q v hv
     rcases hx.newF b q v hv with h3 | h3 | h3
     · exact .inl h3
     · exact .inr (.inl (tE h3))
     · exact .inr (.inr h3)
   · exact hx.io
def abM(F:Fz)(g:Gh)(H:af)(w:World)(r:D)(H':af)(K:Value→World→Prop):Prop:=
 ∀v w' F' g',bF F' g' (shp H') v r→az F' g' H' w'→Ext F g w F' g' w'→Aft g H g' H'→K v w'
def qa(F:Fz)(g:Gh)(S:Nat→Option Sh)(vs:List Value)(ds:List D):Prop:=
 vs.length=ds.length∧∀(i:Nat) v d,vs[i]?=some v→ds[i]?=some d→bF F g S v d
def od(P:Program)(call:aU):Prop:=
 ∀raw f args H r H',call raw f args H=some (r,H')→∀j,Names.ρ f=some j→∀F g w vargs,qa F g (shp H) vargs args→az F g H w→
  ∀K,abM F g H w r H' K→Calls P j vargs.toArray w fun e w'=>∃v,e= .returned v∧K v w'
theorem qa.mono{F F':Fz}{g g':Gh}{S S':Nat→Option Sh}{vs:List Value}{ds:List D}(h:qa F g S vs ds)(hF:mS F F')(hA:rm some g S g' S'):qa F' g' S' vs ds:=
 ⟨h.1,fun i v d hv hd=>(h.2 i v d hv hd).aft hF hA⟩
theorem qa.cons{F:Fz}{g:Gh}{S:Nat→Option Sh}{v:Value}{vs:List Value}{d:D}{ds:List D}(h:bF F g S v d)(hl:qa F g S vs ds):qa F g S (v::vs) (d::ds):=by
 refine⟨by simp[hl.1],fun i v' d' hv hd=>?_⟩
 cases i with
 | zero=>simp at hv hd;subst hv;subst hd;exact h
 | succ i=>simp at hv hd;exact hl.2 i v' d' hv hd
theorem qa.nil{F:Fz}{g:Gh}{S:Nat→Option Sh}:qa F g S [] []:=⟨rfl,fun i v d hv=>by simp at hv⟩
theorem qa.append{F:Fz}{g:Gh}{S:Nat→Option Sh}{vs vs':List Value}{ds ds':List D}(h:qa F g S vs ds)(h':qa F g S vs' ds'):qa F g S (vs++vs') (ds++ds'):=by
 refine⟨by simp[h.1,h'.1],fun i v d hv hd=>?_⟩
 by_cases hi:i<vs.length
 · rw[aLg hi]at hv
   rw[aLg (h.1▸hi)]at hd
   exact h.2 i v d hv hd
 · rw[aLh (by omega)]at hv
   rw[aLh (by have:=h.1;omega),←h.1]at hd
   exact h'.2 _ v d hv hd
theorem CP{F:Fz}{g:Gh}{H:af}{w:World}(hH:az F g H w){v:Value}{d a:D}(h:bF F g (shp H) v d)(ha:xX H d=some a):
 bF (uv F g H w (gu H depth d)) g (shp H) v a:=by
 have fr:∀ {x:T},frz H depth d=some x→bF (uv F g H w (gu H depth d)) g (shp H) v (.t x):=fun hx=> .t _ _ (C2 hH depth h hx)
 have mono:bF (uv F g H w (gu H depth d)) g (shp H) v d:=h.aft (tB F g H w _) (Aft.refl g H)
 cases d<;>simp only[xX,Option.some.injEq,aLb]at ha
 case t x=>subst ha;exact mono
 case nil=>subst ha;cases h;exact .t _ _ (.sl0 _ _)
 case agg cs=>obtain⟨x,hx,rfl⟩:=ha;exact fr hx
 case bp=>subst ha;exact mono
 case ap=>subst ha;exact mono
 case ep=>subst ha;exact mono
 case ref=>obtain⟨x,hx,rfl⟩:=ha;exact fr hx
 case sub=>obtain⟨x,hx,rfl⟩:=ha;exact fr hx
 case fn=>subst ha;exact mono
 case tup=>subst ha;exact mono
 case nilp=>subst ha;exact mono
 case und=>subst ha;exact mono
 case ub=>subst ha;exact mono
 case cl=>subst ha;exact mono
 case q=>subst ha;exact mono
theorem IC{F:Fz}{g:Gh}{H:af}{w:World}(hH:az F g H w){keep:List Nat}:∀ {ds:List D} {i:Nat} {vs:List Value} {args:List D},
 qa F g (shp H) vs ds→tz H keep i ds=some args→qa (uv F g H w (dg H keep i ds)) g (shp H) vs args
 | [],i,vs,args,h,ha=>by
   simp[tz]at ha;subst ha
   have:vs=[]:=List.length_eq_zero_iff.1 h.1
   subst this;exact qa.nil
 | d::ds,i,[],args,h,ha=>by have:=h.1;simp at this
 | d::ds,i,v::vs,args,h,ha=>by
   simp only[tz,aLa,aLb]at ha
   obtain⟨x,hx,r,hr,rfl⟩:=ha
   have h0:bF F g (shp H) v d:=h.2 0 v d rfl rfl
   have ht:qa F g (shp H) vs ds:=⟨by have:=h.1;simpa using this,fun j v d hv hd=>h.2 (j+1) v d (by simpa using hv) (by simpa using hd)⟩
   refine qa.cons ?_ ((IC hH ht hr).mono (mH fun j hj=>by simp only[dg,List.mem_append];exact .inr hj) (Aft.refl g H))
   split at hx
   · cases hx;exact h0.aft (tB F g H w _) (Aft.refl g H)
   · rename_i hk
     refine(CP hH h0 hx).aft (mH fun j hj=>?_) (Aft.refl g H)
     simp only[dg,List.mem_append,hk,if_false,aLt]
     exact .inl hj
theorem C4{F F':Fz}{g g':Gh}{S S':Nat→Option Sh}{v:Value}{d:D}(hs:oR d=true)(h:bF F g S v d):bF F' g' S' v d:=by
 cases d<;>simp only[oR,aLt]at hs
 case t x=>
  cases h with
  | t _ _ h=>cases h<;>simp[T.scalar]at hs<;>first | exact .t _ _ (.int _ _) | exact .t _ _ (.bool _) | exact .t _ _ (.str _)
theorem Kl{F F':Fz}{g g':Gh}{S S':Nat→Option Sh}{v:Value}{d:D}(hs:tx d=true)(h:bF F g S v d):bF F' g' S' v d:=by
 cases d<;>simp only[tx,aLt]at hs
 case t x=>exact C4 (d:= .t x) hs h
 case tup ds=>
  cases h with
  | tup vs _ hl h=>exact .tup vs ds hl fun i v c hv hc=>C4 (aLx.1 hs c (aLd hc)) (h i v c hv hc)
theorem Aft.len{g g':Gh}{H H':af}(h:Aft g H g' H'):H.length≤H'.length:=by
 cases hn:H.length with
 | zero=>omega
 | succ n=>
   have hlt:n<H.length:=by omega
   have e:H[n]?=some H[n]:=aLc hlt
   cases ho:H[n].sh with
   | box=>
     have:=(h.box n n rfl (by rw[mm e,ho])).1
     have:=gA this;omega
   | arr sz ep k=>
     obtain⟨_,_,_,h1,_⟩:=h.arr n n sz ep k rfl (by rw[mm e,ho])
     have:=gA h1;omega
   | own ep=>
     obtain⟨_,h1,_⟩:=h.own n n ep rfl (by rw[mm e,ho])
     have:=gA h1;omega
theorem qa.ren{F:Fz}{g g':Gh}{S S':Nat→Option Sh}{f:Nat→Option Nat}(hL:rm f g S g' S'){vs:List Value}{ds ds':List D}(h:qa F g S vs ds)
 (hr:cK (ren f depth) ds=some ds'):qa F g' S' vs ds':=by
 obtain⟨h1,h2⟩:=bI hr
 refine⟨h.1.trans h1,fun i v d' hv hd'=>?_⟩
 obtain⟨d,hd⟩:=ah h1.symm hd'
 exact(h.2 i v d hv hd).later (mS.refl F) hL (GN (h2 i d d' hd hd'))
theorem PM{sel:List Nat}{H hs:af}(h:pick H sel=some hs):∀i∈sel,i<H.length:=by
 intro i hi
 obtain⟨j,hj⟩:=aLf.1 hi
 obtain⟨h1,h2⟩:=CO h
 obtain⟨o,ho⟩:=ah h1.symm hj
 rw[h2 j i hj]at ho
 exact aj ho
theorem TF{P:Program}{call:aU}(hcall:od P call){F:Fz}{g:Gh}{H H':af}{w:World}(hH:az F g H w)
 {vs:List Value} {ds:List D} (hrel:qa F g (shp H) vs ds) {f raw:Nat} {keep:List Nat} {r:D} (h:yL call H f raw keep ds=some (r,H'))
 {K:Value→World→Prop} (hK:abM F g H w r H' K) {j:Nat} (hj:Names.ρ f=some j):Calls P j vs.toArray w fun e w'=>∃v,e= .returned v∧K v w':=by
 simp only[yL,aLa]at h
 obtain⟨args,hargs,args',hargs',hs,hhs,hs',hhs',p,hp,h⟩:=h
 obtain⟨pr,out⟩:=p
 generalize hA:dg H keep 0 ds=A at*
 generalize hsel:reach H 3 (ir [] (args.flatMap (ids depth)))=sel at*
 have hnd:sel.Nodup:=by rw[← hsel];exact C3 _ _ (pD List.nodup_nil)
 have hH1:az (uv F g H w A) g (pins H A) w:=hH.frz A
 have hX1:Ext F g w (uv F g H w A) g w:=Ext.frz A
 have hA1:Aft g H g (pins H A):=Aft.pins g H A
 have hr1:qa (uv F g H w A) g (shp (pins H A)) vs args:=by
  rw[tC,←hA];exact IC hH hrel hargs
 generalize uv F g H w A=F1 at*
 have hpl:(pins H A).length=H.length:=GP
 generalize pins H A=H1 at*
 obtain⟨hl,hget⟩:=CO hhs
 have hlt:=PM hhs
 have hren:=bI hhs'
 obtain⟨hPart,hLp,hsame⟩:=hH1.part (sel:=sel) hnd (hs:=hs) (hs':=hs') hl
  (fun j i o hj ho=>⟨o,by rw[← hget j i hj];exact ho,rfl⟩)
  (fun j i o og hj ho hog=>hH1.fits i o og (by rw[← hget j i hj];exact ho) hog)
  ⟨hren.1,fun j o o' ho ho'=>xY (hren.2 j o o' ho ho')⟩
 have hC:=hcall raw f args' hs' pr out hp j hj
 refine(hC F1 (EP g sel) w vs (hr1.ren hLp hargs') hPart _ fun v w' F' gc hv hc hx ha=>?_)
 have hk:sel.length≤out.length:=by
  have:=ha.len
  rw[← hren.1,hl]at this;exact this
 split at h
 · rename_i hcond
   simp only[aLr,List.isEmpty_iff]at hcond
   obtain⟨⟨h1,h2⟩,h3⟩:=hcond
   simp only[Option.some.injEq,Prod.mk.injEq]at h
   obtain⟨rfl,rfl⟩:=h
   subst h1
   have hno:∀b,¬(EP g []).has b:=fun b ⟨og,hm,_⟩=>by simp[EP]at hm
   have hkeep:∀b,b<w.heap.size→w'.heap[b]?=w.heap[b]?:=fun b hb=>hx.keep b hb (hno b)
   exact hK v w' F g (Kl h3 hv) (hH.grow hkeep) (Ext.grow hx.size hkeep hx.io) (Aft.refl g H)
 · simp only[aLa,aLb,Prod.mk.injEq]at h
   obtain⟨r',hr',os,hos,rfl,rfl⟩:=h
   have hro:=bI hos
   rw[← hpl]at hr' hos hro
   obtain⟨gm,m1,m2,m3,m4⟩:=hH1.merge (hs':=hs') hnd hlt (by rw[← hren.1,hl]) hsame hc hx ha
    ⟨hro.1,fun j o o' ho ho'=>xY (hro.2 j o o' ho ho')⟩ hk
   exact hK v w' F' gm (hv.later (mS.refl F') m4 (GN hr')) m1 (hX1.trans m2) (hA1.trans m3)
def abN:List Value→Value
 | [v]=>v
 | vs=> .tuple vs.toArray
theorem ID{F:Fz}{g:Gh}{S:Nat→Option Sh}{vs:List Value}{ds:List D}(h:qa F g S vs ds):bF F g S (abN vs) (Ca ds):=by
 match vs,ds,h with
 | [],[],h=>exact .tup [] [] rfl fun i v c hv=>by simp at hv
 | [v],[d],h=>exact h.2 0 v d rfl rfl
 | a::b::vs,c::d::ds,h=>exact .tup _ _ h.1 h.2
 | [],_::_,h=>have:=h.1;simp at this
 | _::_,[],h=>have:=h.1;simp at this
 | [_],_::_::_,h=>have:=h.1;simp at this
 | _::_::_,[_],h=>have:=h.1;simp at this
theorem PN{F:Fz}{g:Gh}{H:af}{w:World}(hH:az F g H w){A:List Nat}:∀ {ds rs:List D} {vs:List Value},qa F g (shp H) vs ds→cK (xX H) ds=some rs→
 (∀i∈ds.flatMap (gu H depth),i∈A)→qa (uv F g H w A) g (shp H) vs rs:=by
 intro ds rs vs h hr hA
 obtain⟨h1,h2⟩:=bI hr
 refine⟨h.1.trans h1,fun i v r hv hr'=>?_⟩
 obtain⟨d,hd⟩:=ah h1.symm hr'
 refine(CP hH (h.2 i v d hv hd) (h2 i d r hd hr')).aft (mH fun j hj=>hA j ?_) (Aft.refl g H)
 simp only[List.mem_flatMap]
 exact⟨d,aLd hd,hj⟩
theorem Ar(x:T){k:Nat}{d:D}(h:(D.t x).cells[k]?=some d):∃c,x.cells[k]?=some c∧d=D.t c:=by
 simp[D.cells]at h
 obtain⟨c,hc,rfl⟩:=h;exact⟨c,hc,rfl⟩
theorem IE{H:af}{o o':Obj}(h:fA H o=some o'):o'.sh=o.sh:=by
 cases o<;>simp only[fA,aLb]at h<;>obtain⟨es,hes,rfl⟩:=h
 · rfl
 · simp[Obj.sh,(bI hes).1]
theorem Fits.freeze{F:Fz}{g:Gh}{H:af}{w:World}(hH:az F g H w){A:List Nat}{i:Nat}{o o':Obj}{og:OG}(ho:H[i]?=some o)(hog:g[i]?=some og)
 (hf:fA H o=some o') (hA:∀j∈o.ds.flatMap (gu H depth),j∈A) (hi:i∉A):Fits (uv F g H w A) g (shp H) w og o':=by
 have hfit:=hH.fits i o og ho hog
 have hF':∀b,og.blk=some b→∀q v,uv F g H w A b q=some v→F b q=some v:=by
  intro b hb q v hv
  unfold uv at hv
  cases hF:F b q with
  | some u=>simp[hF]at hv;subst hv;rfl
  | none=>
    simp only[hF]at hv
    split at hv
    · rename_i hc
      obtain⟨id,hm,og',sz,pin,ep,es,h1,h2,h3,h4⟩:=hc
      exact(hH.sep id i og' og b (fun e=>hi (e▸hm)) h1 hog h3 hb).elim
    · cases hv
 cases o with
 | own ep=>simp[fA]at hf
 | box cs=>
   simp only[fA,aLb]at hf
   obtain⟨ds,hds,rfl⟩:=hf
   obtain⟨h1,h2⟩:=bI hds
   rcases hfit with⟨h0,c,hs,hv⟩ | ⟨b,c,ty,hb,hc,hs,hv,hz⟩
   · refine .inl ⟨h0,c,hs.trans h1,fun k v d hv' hd=>?_⟩
     obtain⟨e,he⟩:=ah h1.symm hd
     obtain⟨k1,k2⟩:=hv k v e hv' he
     refine⟨k1,(CP hH k2 (h2 k e d he hd)).aft (mH fun j hj=>hA j ?_) (Aft.refl g H)⟩
     simp only[Obj.ds,List.mem_flatMap]
     exact⟨e,aLd he,hj⟩
   refine .inr ⟨b,c,ty,hb,hc,hs.trans h1,fun k v d hv' hd=>?_,fun q=>?_⟩
   · obtain⟨e,he⟩:=ah h1.symm hd
     obtain⟨k1,k2⟩:=hv k v e hv' he
     refine⟨k1,(CP hH k2 (h2 k e d he hd)).aft (mH fun j hj=>hA j ?_) (Aft.refl g H)⟩
     simp only[Obj.ds,List.mem_flatMap]
     exact⟨e,aLd he,hj⟩
   · cases hv:uv F g H w A b q with
     | none=>rfl
     | some v=>have:=hF' b hb q v hv;rw[hz q]at this;cases this
 | arr sz pin ep es=>
   simp only[fA,aLb]at hf
   obtain⟨ds,hds,rfl⟩:=hf
   obtain⟨h1,h2⟩:=bI hds
   rcases hfit with⟨k1,k2⟩ | ⟨b,c,ty,hb,hc,hs,hle,hz,hcell,hfz⟩
   · rcases k2 with rfl | k2
     · exact .inl ⟨k1,.inl (List.length_eq_zero_iff.1 h1.symm)⟩
     · refine .inl ⟨k1,.inr fun d hd=>?_⟩
       obtain⟨k,hk⟩:=aLf.1 hd
       obtain⟨e,he⟩:=ah h1.symm hk
       have:=h2 k e d he hk
       obtain⟨x,_,rfl⟩:=aLb.1 this
       exact⟨x,rfl⟩
   · have el:∀(k:Nat) (d:D),ds[k]?=some d→∃e x,es[k]?=some e∧frz H depth e=some x∧d=D.t x:=by
      intro k d hd
      obtain⟨e,he⟩:=ah h1.symm hd
      have:=h2 k e d he hd
      obtain⟨x,hx,rfl⟩:=aLb.1 this
      exact⟨e,x,he,hx,rfl⟩
     refine .inr ⟨b,c,ty,hb,hc,hs,h1▸hle,?_,?_,fun q v hv=>?_⟩
     · intro d hd
       obtain⟨k,hk⟩:=aLf.1 hd
       obtain⟨e,x,he,hx,rfl⟩:=el k d hk
       refine⟨?_,rfl⟩
       have:=C1 hx
       simp only[D.cells,List.length_map]
       rw[this];exact(hz e (aLd he)).1
     · intro k d q y hd hy
       obtain⟨e,x,he,hx,rfl⟩:=el k d hd
       obtain⟨cx,hcx,rfl⟩:=Ar x hy
       obtain⟨d0,m,hd0,hfd,_,hsub⟩:=wL hx hcx
       obtain⟨v,hv,hlv,hrel⟩:=hcell k e q d0 he hd0
       refine⟨v,hv,hlv,.t _ _ ((C2 hH m hrel hfd).mono (mH fun j hj=>hA j ?_))⟩
       simp only[Obj.ds,List.mem_flatMap]
       exact⟨e,aLd he,hsub j hj⟩
     · obtain⟨u1,u2⟩:=hfz q v (hF' b hb q v hv)
       exact⟨u1,h1▸u2⟩
def Real(F:Fz)(g:Gh)(H:af)(d:D):Prop:=∀(k:Nat) c,d.cells[k]?=some c→∃v,bF F g (shp H) v c
theorem bF.real{F:Fz}{g:Gh}{H:af}{v:Value}{d:D}(h:bF F g (shp H) v d)(ht:∀x,d≠ .t x):Real F g H d:=by
 intro k c hc
 have one:d.cells=[d]→∃v,bF F g (shp H) v c:=fun h1=>by
  rw[h1]at hc
  cases k with
  | zero=>simp at hc;subst hc;exact⟨v,h⟩
  | succ k=>simp at hc
 cases d with
 | t x=>exact(ht x rfl).elim
 | agg cs=>
   cases h with
   | agg vs _ hl hv h=>
     simp only[D.cells]at hc
     obtain⟨v,hv⟩:=ah hl.symm hc
     exact⟨v,h k v c hv hc⟩
 | _=>exact one rfl
theorem C5{F:Fz}{g:Gh}{H:af}{w:World}(hH:az F g H w):∀ {n:Nat} {d:D},Real F g H d→∀i∈gu H n d,i<H.length:=by
 intro n
 induction n with
 | zero=>intro d h i hi;cases d<;>simp[gu]at hi
 | succ n ih=>
   intro d h i hi
   -- of an element of an array
   have els:∀ {id sz ep:Nat} {pin:Bool} {es:List D},H[id]?=some (.arr sz pin ep es)→i∈es.flatMap (gu H n)→i<H.length:=by
    intro id sz ep pin es hid hi
    simp only[List.mem_flatMap]at hi
    obtain⟨e,he,hi⟩:=hi
    obtain⟨og,hog,hf⟩:=hH.og hid
    rcases hf with⟨_,h0⟩ | ⟨b,c,ty,hb,hc,hs,hle,hz,hcell,_⟩
    · rcases h0 with rfl | h0
      · simp at he
      · obtain⟨x,rfl⟩:=h0 e he
        cases n<;>simp[gu]at hi
    · obtain⟨j,hj⟩:=aLf.1 he
      refine ih (fun k x hx=>?_) i hi
      obtain⟨v,_,_,h3⟩:=hcell j e k x hj hx
      exact⟨v,h3⟩
   have idlt:∀ {v:Value} {id ep m:Nat},bF F g (shp H) v (.ref id ep m)→id<H.length:=by
    intro v id ep m h
    cases h with
    | ref _ _ _ _ _ _ hs=>exact gA hs
    | refOld _ _ _ _ _ _ _ _ hs=>exact gA hs
   have idlt':∀ {v:Value} {id ep m lo hi:Nat},bF F g (shp H) v (.sub id ep m lo hi)→id<H.length:=by
    intro v id ep m lo hi h
    cases h with
    | sub _ _ _ _ _ _ _ _ _ _ _ hs=>exact gA hs
    | sub0 _ _ _ _ _ _ _ _ _ _ hs=>exact gA hs
    | subOld _ _ _ _ _ _ _ _ _ _ hs=>exact gA hs
   cases d<;>simp only[gu,List.not_mem_nil]at hi
   case agg cs=>
    simp only[List.mem_flatMap]at hi
    obtain⟨c,hc,hi⟩:=hi
    obtain⟨j,hj⟩:=aLf.1 hc
    obtain⟨v,hv⟩:=h j c hj
    by_cases ht:∃x,c= .t x
    · obtain⟨x,rfl⟩:=ht;cases n<;>simp[gu]at hi
    · exact ih (hv.real fun x e=>ht ⟨x,e⟩) i hi
   case ref id ep m=>
    obtain⟨v,hv⟩:=h 0 _ rfl
    simp only[List.mem_cons]at hi
    rcases hi with rfl | hi
    · exact idlt hv
    · split at hi
      · exact els (by assumption) hi
      · cases hi
   case sub id ep m lo hi'=>
    obtain⟨v,hv⟩:=h 0 _ rfl
    simp only[List.mem_cons]at hi
    rcases hi with rfl | hi
    · exact idlt' hv
    · split at hi
      · exact els (by assumption) hi
      · cases hi
theorem bF.C5{F:Fz}{g:Gh}{H:af}{w:World}(hH:az F g H w){v:Value}{d:D}(h:bF F g (shp H) v d){n:Nat}:∀i∈gu H n d,i<H.length:=by
 intro i hi
 by_cases ht:∃x,d= .t x
 · obtain⟨x,rfl⟩:=ht;cases n<;>simp[gu]at hi
 · exact Ev.C5 hH (h.real fun x e=>ht ⟨x,e⟩) i hi
theorem Km{F:Fz}{g:Gh}{H:af}{w:World}(hH:az F g H w){i:Nat}{o:Obj}(ho:H[i]?=some o){n:Nat}:∀a∈o.ds.flatMap (gu H n),a<H.length:=by
 intro a ha
 simp only[List.mem_flatMap]at ha
 obtain⟨d,hd,ha⟩:=ha
 obtain⟨og,hog,hf⟩:=hH.og ho
 obtain⟨j,hj⟩:=aLf.1 hd
 cases o with
 | box cs=>
   obtain⟨c,hs,hv⟩:=hf.Kk
   have:j<c.size:=hs▸aj hj
   exact((hv j _ d (Array.getElem?_eq_getElem this) hj).2).C5 hH a ha
 | arr sz pin ep es=>
   rcases hf with⟨_,h0⟩ | ⟨b,c,ty,hb,hc,hs,hle,hz,hcell,_⟩
   · rcases h0 with rfl | h0
     · simp[Obj.ds]at hd
     · obtain⟨x,rfl⟩:=h0 d hd
       cases n<;>simp[gu]at ha
   · refine C5 hH (fun k x hx=>?_) a ha
     obtain⟨v,_,_,h3⟩:=hcell j d k x hj hx
     exact⟨v,h3⟩
 | own ep=>simp[Obj.ds]at hd
theorem xZ:∀ {l sel:List Nat},∃t,ir sel l=sel++t
 | [],sel=>⟨[],by simp[ir]⟩
 | a::l,sel=>by
   unfold ir
   split
   · exact xZ
   · obtain⟨t,ht⟩:=xZ (l:=l) (sel:=sel++[a])
     exact⟨a::t,by rw[ht];simp⟩
theorem Kn(sel l:List Nat):ir sel l=sel++(ir sel l).drop sel.length:=by
 obtain⟨t,ht⟩:=xZ (l:=l) (sel:=sel)
 rw[ht];simp
theorem IF{H:af}:∀ {n:Nat} {sel front m:List Nat} {os:af},rC H n sel front=some (m,os)→sel.Nodup→
 (sel++m).Nodup∧os.length=m.length∧∀(j i:Nat) o,m[j]?=some i→os[j]?=some o→∃o0,H[i]?=some o0∧
  (o=o0∨(fA H o0=some o∧∀a∈o0.ds.flatMap (gu H depth),a∉sel++m))
 | 0,sel,front,m,os,h,hn=>by
   simp only[rC,Option.some.injEq,Prod.mk.injEq]at h
   obtain⟨rfl,rfl⟩:=h
   simpa using hn
 | n+1,sel,front,m,os,h,hn=>by
   simp only[rC,aLa,aLb,Prod.mk.injEq]at h
   obtain⟨hs,hhs,hs',hhs',q,hq,rfl,rfl⟩:=h
   obtain⟨m',os'⟩:=q
   generalize hnew:(ir sel front).drop sel.length=new at*
   have hnd:(sel++new).Nodup:=by rw[← hnew,←Kn];exact pD hn
   obtain⟨k1,k2,k3⟩:=IF hq hnd
   obtain⟨p1,p2⟩:=CO hhs
   have hlt:=PM hhs
   -- the objects of this level
   have lv:hs'.length=new.length∧∀(j i:Nat) o,new[j]?=some i→hs'[j]?=some o→∃o0,H[i]?=some o0∧
    (o=o0∨(fA H o0=some o∧n=0∧∀a∈o0.ds.flatMap (gu H depth),a∉sel++new)):=by
    split at hhs'
    · rename_i hn0
      split at hhs'
      · rename_i hall
        obtain⟨f1,f2⟩:=bI hhs'
        refine⟨f1.symm.trans p1,fun j i o hj ho=>?_⟩
        obtain⟨o0,ho0⟩:=ah f1.symm ho
        refine⟨o0,by rw[← p2 j i hj];exact ho0,.inr ⟨f2 j o0 o ho0 ho,hn0,fun a ha=>?_⟩⟩
        have:=aLx.1 hall a (by
         simp only[List.mem_flatMap]
         refine⟨o0,aLd ho0,?_⟩
         simpa using ha)
        simpa using this
      · cases hhs'
    · cases hhs'
      exact⟨p1,fun j i o hj ho=>⟨o,by rw[← p2 j i hj];exact ho,.inl rfl⟩⟩
   refine⟨by simpa using k1,by simp[lv.1,k2],fun j i o hj ho=>?_⟩
   by_cases hlt':j<new.length
   · rw[aLg hlt']at hj
     rw[aLg (lv.1.symm▸hlt')]at ho
     obtain⟨o0,h1,h2⟩:=lv.2 j i o hj ho
     refine⟨o0,h1,?_⟩
     rcases h2 with h2 | ⟨h2,h3,h4⟩
     · exact .inl h2
     · subst h3
       simp only[rC,Option.some.injEq,Prod.mk.injEq]at hq
       obtain⟨rfl,rfl⟩:=hq
       exact .inr ⟨h2,by simpa using h4⟩
   · rw[aLh (by omega)]at hj
     rw[aLh (by have:=lv.1;omega),lv.1]at ho
     obtain⟨o0,h1,h2⟩:=k3 _ i o hj ho
     refine⟨o0,h1,?_⟩
     rcases h2 with h2 | ⟨h2,h3⟩
     · exact .inl h2
     · exact .inr ⟨h2,by simpa using h3⟩
theorem Gh.GQ{g:Gh}{k b:Nat}(h:Gh.has (g.take k) b):g.has b:=by
 obtain⟨og,hm,hb⟩:=h
 exact⟨og,List.mem_of_mem_take hm,hb⟩
theorem qv{H:af}{k i:Nat}(h:i<k):shp (H.take k) i=shp H i:=by
 unfold shp;rw[aLo,if_pos h]
theorem rm.take(g:Gh)(H:af)(k:Nat):rm (under k) g (shp H) (g.take k) (shp (H.take k)):=by
 have u:∀ {i j:Nat},under k i=some j→i<k∧j=i:=by
  intro i j h
  unfold under at h
  split at h
  · cases h;exact⟨by assumption,rfl⟩
  · cases h
 constructor
 · intro i j hj hs
   obtain⟨h1,rfl⟩:=u hj
   exact⟨(qv h1).trans hs,by rw[aLo,if_pos h1]⟩
 · intro i j sz ep n hj hs
   obtain⟨h1,rfl⟩:=u hj
   exact⟨sz,ep,n,(qv h1).trans hs,.inr ⟨rfl,rfl,rfl,by rw[aLo,if_pos h1]⟩⟩
 · intro i j ep hj hs
   obtain⟨h1,rfl⟩:=u hj
   exact⟨ep,(qv h1).trans hs,.inr ⟨rfl,by rw[aLo,if_pos h1]⟩⟩
theorem GR{k n:Nat}{cs:List D}(h:cs.all (old k n)=true):∀(i:Nat) c d,cs[i]?=some c→cs[i]?=some d→Ren (under k) c d:=by
 intro i c d hc hd
 rw[hc]at hd;cases hd
 exact PJ (aLx.1 h c (aLd hc))
theorem XC{k:Nat}{o:Obj}(h:o.ds.all (old k depth)=true):L4 (under k) o o:=by
 cases o with
 | box cs=>exact .box cs cs rfl (GR h)
 | arr sz pin ep es=>exact .arr sz pin ep es es rfl (GR h)
 | own ep=>exact .own ep
theorem az.take{F:Fz}{g:Gh}{H:af}{w:World}(h:az F g H w){k:Nat}(hold:(H.take k).all (fun o=>o.ds.all (old k depth))=true):az F (g.take k) (H.take k) w where
 len:=by simp[h.len]
 agree:=h.agree
 sep i j ogi ogj b hne hi hj:=by
  rw[aLo]at hi hj
  split at hi
  · split at hj
    · exact h.sep i j ogi ogj b hne hi hj
    · cases hj
  · cases hi
 fits i o og ho hg:=by
  have hmem:=aLd ho
  rw[aLo]at ho hg
  split at ho
  · rename_i hi
    rw[if_pos hi]at hg
    exact(h.fits i o og ho hg).later (XC (aLx.1 hold o hmem)) (rm.take g H k) (mS.refl F) (fun _ _ _ _ h=>h) fun _ _=>rfl
  · cases ho
theorem PO{F:Fz}{g g0:Gh}{H H0 H':af}{w:World}(hH:az F g H w){vs:List Value}{ds:List D}(hrel:qa F g (shp H) vs ds)
 (hA0:Aft g0 H0 g H) {raw:Nat} {r:D} (h:finish H0.length raw H ds=some (r,H')):
 ∃F' g',bF F' g' (shp H') (abN vs) r∧az F' g' H' w∧Ext F g w F' g' w∧Aft g0 H0 g' H':=by
 simp only[finish,aLa]at h
 obtain⟨rs,hrs,h⟩:=h
 generalize hk:H0.length=k at*
 have hkH:k≤H.length:=hk▸hA0.len
 -- the results,where all dead arrays have been frozen
 have res:∀A:List Nat,(∀i∈m0 H raw ds,i∈A)→qa (uv F g H w A) g (shp H) vs rs:=by
  intro A hA
  split at hrs
  · rename_i h0
    exact PN hH hrel hrs (by simpa [m0,h0]using hA)
  · cases hrs;exact hrel.mono (tB F g H w A) (Aft.refl g H)
 split at h
 · rename_i hc
   split at h
   · rename_i hA
     simp only[Option.some.injEq,Prod.mk.injEq]at h
     obtain⟨rfl,rfl⟩:=h
     rw[aLr]at hc
     obtain⟨h1,h2⟩:=hc
     generalize m0 H raw ds=A at*
     have hAk:∀i∈A,k≤i:=fun i hi=>of_decide_eq_true (aLx.1 hA i hi)
     have hp:(pins H A).take k=H.take k:=by
      apply List.ext_getElem?
      intro i
      simp only[aLo,yN]
      split
      · rename_i hi
        have:i∉A:=fun hm=>by have:=hAk i hm;omega
        simp[this]
      · rfl
     have hH1:=(hH.frz A).take (k:=k) (by rw[hp];exact h2)
     rw[hp]at hH1
     have hL:=rm.take g H k
     refine⟨uv F g H w A,g.take k,?_,hH1,?_,?_⟩
     · have hr:=res A (fun i hi=>hi)
       refine(ID ⟨hr.1,fun i v d hv hd=>?_⟩)
       exact(hr.2 i v d hv hd).later (mS.refl _) hL (GR h1 i d d hd hd)
     · have hx:=Ext.frz (F:=F) (g:=g) (H:=H) (w:=w) A
       exact⟨hx.sub,hx.size,hx.keep,fun b hb=> .inl (Gh.GQ hb),hx.newF,hx.io⟩
     · constructor
       · intro i j hj hs
         cases hj
         obtain⟨a,b⟩:=hA0.box i i rfl hs
         have hi:i<k:=hk▸gA hs
         exact⟨(qv hi).trans a,by rw[aLo,if_pos hi,b]⟩
       · intro i j sz ep n hj hs
         cases hj
         obtain⟨sz',ep',n',a,b⟩:=hA0.arr i i sz ep n rfl hs
         have hi:i<k:=hk▸gA hs
         exact⟨sz',ep',n',(qv hi).trans a,by rw[aLo,if_pos hi];exact b⟩
       · intro i j ep hj hs
         cases hj
         obtain⟨ep',a,b⟩:=hA0.own i i ep rfl hs
         have hi:i<k:=hk▸gA hs
         exact⟨ep',(qv hi).trans a,by rw[aLo,if_pos hi];exact b⟩
   · cases h
 · simp only[aLa]at h
   obtain⟨⟨m,os⟩,hq,h⟩:=h
   split at h
   · rename_i hA
     simp only[aLa,aLb,Prod.mk.injEq]at h
     obtain⟨rs',hrs',hs',hhs',rfl,rfl⟩:=h
     dsimp only at hA hrs' hhs'
     obtain⟨hnd,hol,hobj⟩:=IF hq List.nodup_range
     generalize hsel:List.range k++m=sel at*
     have hkm:(H.take k).length=k:=by simp;omega
     let A:=(List.range H.length).filter fun i=> !sel.contains i
     have memA:∀i,i∈A↔i<H.length∧i∉sel:=by intro i;simp[A]
     -- the objects that are kept
     have at_:∀(j i:Nat) o,sel[j]?=some i→(H.take k++os)[j]?=some o→∃o0,H[i]?=some o0∧
      (o=o0∨(fA H o0=some o∧∀a∈o0.ds.flatMap (gu H depth),a∉sel)):=by
      intro j i o hj ho
      by_cases hjk:j<k
      · rw[← hsel,aLg (by simpa using hjk)]at hj
        rw[aLg (by omega),aLo,if_pos hjk]at ho
        have:i=j:=by simp[hjk]at hj;exact hj.symm
        subst this
        exact⟨o,ho,.inl rfl⟩
      · rw[← hsel,aLh (by simp;omega)]at hj
        rw[aLh (by omega),hkm]at ho
        simp only[List.length_range]at hj
        exact hobj _ i o hj ho
     have hsl:(H.take k++os).length=sel.length:=by rw[← hsel];simp[hol];omega
     have hHA:=hH.frz A
     have hpin:∀i∈sel,(pins H A)[i]?=H[i]?:=by
      intro i hi
      rw[yN,if_neg (fun hm=>((memA i).1 hm).2 hi)]
     obtain⟨q1,q2⟩:=bI hhs'
     obtain⟨c1,c2,c3⟩:=hHA.part (sel:=sel) hnd (hs:=H.take k++os) (hs':=hs') hsl
      (fun j i o hj ho=>by
       obtain⟨o0,h1,h2⟩:=at_ j i o hj ho
       refine⟨o0,by rw[hpin i (aLd hj)];exact h1,?_⟩
       rcases h2 with h2 | ⟨h2,_⟩
       · rw[h2]
       · exact IE h2)
      (fun j i o og hj ho hog=>by
       obtain⟨o0,h1,h2⟩:=at_ j i o hj ho
       have him:=aLd hj
       rcases h2 with h2 | ⟨h2,h3⟩
       · subst h2
         exact hHA.fits i o og (by rw[hpin i him];exact h1) hog
       · rw[tC]
         refine Fits.freeze hH h1 hog h2 (fun a ha=>(memA a).2 ⟨?_,h3 a ha⟩) (fun hm=>((memA i).1 hm).2 him)
         exact Km hH h1 a ha)
      ⟨q1,fun j o o' ho ho'=>xY (q2 j o o' ho ho')⟩
     rw[tC]at c2 c3
     refine⟨uv F g H w A,EP g sel,?_,c1,?_,?_⟩
     · have hr:=res A (fun i hi=>(memA i).2 ⟨?_,?_⟩)
       · exact ID (hr.ren c2 hrs')
       · split at hrs
         · rename_i h0
           simp only[m0,h0,if_true,List.mem_flatMap]at hi
           obtain⟨d,hd,hi⟩:=hi
           obtain⟨j,hj⟩:=aLf.1 hd
           obtain⟨v,hv⟩:=ah hrel.1.symm hj
           exact(hrel.2 j v d hv hj).C5 hH i hi
         · rename_i h0;simp[m0,h0]at hi
       · have:=aLx.1 hA i hi
         simpa using this
     · have hx:=Ext.frz (F:=F) (g:=g) (H:=H) (w:=w) A
       exact⟨hx.sub,hx.size,hx.keep,fun b hb=> .inl (tE hb),hx.newF,hx.io⟩
     · have hj:∀i,i<k→sel[i]?=some i:=fun i hi=>by rw[← hsel,aLg (by simpa using hi)];simp[hi]
       constructor
       · intro i j hij hs
         cases hij
         obtain⟨a,b⟩:=hA0.box i i rfl hs
         have hi:i<k:=hk▸gA hs
         obtain⟨d1,d2⟩:=c3 i i (hj i hi)
         exact⟨d1.trans a,d2.trans b⟩
       · intro i j sz ep n hij hs
         cases hij
         obtain⟨sz',ep',n',a,b⟩:=hA0.arr i i sz ep n rfl hs
         have hi:i<k:=hk▸gA hs
         obtain⟨d1,d2⟩:=c3 i i (hj i hi)
         exact⟨sz',ep',n',d1.trans a,by rw[d2];exact b⟩
       · intro i j ep hij hs
         cases hij
         obtain⟨ep',a,b⟩:=hA0.own i i ep rfl hs
         have hi:i<k:=hk▸gA hs
         obtain⟨d1,d2⟩:=c3 i i (hj i hi)
         exact⟨ep',d1.trans a,by rw[d2];exact b⟩
   · cases h
def L6(P:Program)(ρ:Operand→Value)(o:Oper)(w:World)(K:Value→World→Prop):Prop:=
 match (execOp ρ o).run P w with
 | .ok (.value v) w'=>K v w'
 | .ok .skip w'=>K undef w'
 | .ok (.enter f args) w'=>Calls P f args w' fun e w''=>∃v,e= .returned v∧K v w''
 | _=>False
theorem L6.wp{P:Program}{o:Oper}{a:Act}{w:World}{next:Act→World→Prop}{Q:Exit→Act→World→Prop}
 (h:L6 P a.eval o w fun v w'=>next (a.put o.dst v) w'):o.wp P a w next Q:=by
 unfold L6 at h
 unfold Oper.wp
 generalize (execOp a.eval o).run P w=r at h
 cases r with
 | ok n w'=>
   cases n<;>simp only[Oper.upon]<;>first | exact h | exact h.elim | skip
   exact h.mono fun e w'' ⟨v,he,hk⟩=>by subst he;exact hk
 | halt x w'=>exact h.elim
def Yld(P:Program)(ρ:Operand→Value)(o:Oper)(F:Fz)(g:Gh)(H:af)(w:World)(r:D)(H':af):Prop:=
 ∃v w' F' g',(execOp ρ o).run P w= .ok (.value v) w'∧bF F' g' (shp H') v r∧az F' g' H' w'∧Ext F g w F' g' w'∧Aft g H g' H'
theorem Yld.to{P:Program}{ρ:Operand→Value}{o:Oper}{F:Fz}{g:Gh}{H H':af}{w:World}{r:D}(h:Yld P ρ o F g H w r H'){K:Value→World→Prop}
 (hK:abM F g H w r H' K):L6 P ρ o w K:=by
 obtain⟨v,w',F',g',hr,h1,h2,h3,h4⟩:=h
 unfold L6
 rw[hr]
 exact hK v w' F' g' h1 h2 h3 h4
theorem Yld.pure{P:Program}{ρ:Operand→Value}{o:Oper}{F:Fz}{g:Gh}{H:af}{w:World}{r:D}(hH:az F g H w)(v:Value)
 (hr:(execOp ρ o).run P w= .ok (.value v) w) (h:bF F g (shp H) v r):Yld P ρ o F g H w r H:=
 ⟨v,w,F,g,hr,h,hH,Ext.refl F g w,Aft.refl g H⟩
def vd(P:Program)(t:TypeId):Option Nat:=(P.info? t).map (·.size)
def Kc(P:Program)(t:TypeId):Option Bool:=(P.underlying t).map fun
 | .struct _=>true
 | .array _ _=>true
 | _=>false
theorem run_sizeOf{P:Program}{t:TypeId}{n:Nat}(h:vd P t=some n)(w:World):(sizeOf t).run P w= .ok n w:=by
 unfold vd at h
 obtain⟨i,hi,rfl⟩:=aLb.1 h
 simp[sizeOf,typeInfo,hi]
theorem yP{P:Program}{t:TypeId}{b:Bool}(h:Kc P t=some b)(w:World):(isAgg t).run P w= .ok b w:=by
 unfold Kc at h
 obtain⟨d,hd,rfl⟩:=aLb.1 h
 simp only[isAgg,Sem.run_bind,run_underlying hd,Result.andThen_ok]
 cases d<;>rfl
def As:Value→D→Bool
 | .int k n,.t (.int j m)=>decide (k=j)&&decide (n=m)
 | .bool a,.t (.bool b)=>a==b
 | .string s,.t (.str u)=>decide (s=u)
 | .slice none 0 0,.nil=>true
 | .pointer none,.nilp=>true
 | .func (.func f) a c,.fn j []=>decide (Names.ρ j=some f)&&a.isEmpty&&c.isEmpty
 | .agg vs,.t (.agg ts)=>relVT vs.toList ts
 | .agg vs,.agg ds=>relVD vs.toList ds
 | _,.und=>true
 | _,_=>false
where
 relVT:List Value→List T→Bool
  | [],[]=>true
  | v::vs,t::ts=>fM v&&(match v,t with
    | .int k n,.int j m=>decide (k=j)&&decide (n=m)
    | .bool a,.bool b=>a==b
    | .string s,.str u=>decide (s=u)
    | .slice none 0 0,.sl []=>true
    | _,_=>false)&&relVT vs ts
  | _,_=>false
 relVD:List Value→List D→Bool
  | [],[]=>true
  | v::vs,d::ds=>fM v&&(match v,d with
    | .int k n,.t (.int j m)=>decide (k=j)&&decide (n=m)
    | .bool a,.t (.bool b)=>a==b
    | .string s,.t (.str u)=>decide (s=u)
    | .slice none 0 0,.nil=>true
    | .pointer none,.nilp=>true
    | _,.und=>true
    | _,_=>false)&&relVD vs ds
  | _,_=>false
theorem IG:∀ {vs:List Value} {ts:List T},As.relVT vs ts=true→vs.length=ts.length∧(∀v∈vs,fM v=true)∧∀(F:Fz) (i:Nat) v t,vs[i]?=some v→ts[i]?=some t→lP F v t
 | [],[],_=>⟨rfl,by simp,fun F i v t hv=>by simp at hv⟩
 | [],_::_,h=>by simp[As.relVT]at h
 | _::_,[],h=>by simp[As.relVT]at h
 | v::vs,t::ts,h=>by
   simp only[As.relVT,aLr]at h
   obtain⟨⟨h1,h2⟩,h3⟩:=h
   obtain⟨k1,k2,k3⟩:=IG h3
   refine⟨by simp[k1],by simpa [h1]using k2,fun F i v' t' hv ht=>?_⟩
   cases i with
   | succ i=>simp at hv ht;exact k3 F i v' t' hv ht
   | zero=>
     simp at hv ht;subst hv;subst ht
     split at h2
     · simp at h2;obtain⟨rfl,rfl⟩:=h2;exact .int _ _
     · simp at h2;subst h2;exact .bool _
     · simp at h2;subst h2;exact .str _
     · exact .sl0 _ _
     · cases h2
theorem C6:∀ {vs:List Value} {ds:List D},As.relVD vs ds=true→vs.length=ds.length∧(∀v∈vs,fM v=true)∧∀(F:Fz) (g:Gh) (S:Nat→Option Sh) (i:Nat) v d,vs[i]?=some v→ds[i]?=some d→bF F g S v d
 | [],[],_=>⟨rfl,by simp,fun F g S i v t hv=>by simp at hv⟩
 | [],_::_,h=>by simp[As.relVD]at h
 | _::_,[],h=>by simp[As.relVD]at h
 | v::vs,t::ts,h=>by
   simp only[As.relVD,aLr]at h
   obtain⟨⟨h1,h2⟩,h3⟩:=h
   obtain⟨k1,k2,k3⟩:=C6 h3
   refine⟨by simp[k1],by simpa [h1]using k2,fun F g S i v' t' hv ht=>?_⟩
   cases i with
   | succ i=>simp at hv ht;exact k3 F g S i v' t' hv ht
   | zero=>
     simp at hv ht;subst hv;subst ht
     split at h2
     · simp at h2;obtain⟨rfl,rfl⟩:=h2;exact .t _ _ (.int _ _)
     · simp at h2;subst h2;exact .t _ _ (.bool _)
     · simp at h2;subst h2;exact .t _ _ (.str _)
     · exact .nil
     · exact .nilp
     · exact .und _
     · cases h2
theorem wO{v:Value}{d:D}(h:As v d=true)(F:Fz)(g:Gh)(S:Nat→Option Sh):bF F g S v d:=by
 unfold As at h
 split at h
 · simp at h;obtain⟨rfl,rfl⟩:=h;exact .t _ _ (.int _ _)
 · simp at h;subst h;exact .t _ _ (.bool _)
 · simp at h;subst h;exact .t _ _ (.str _)
 · exact .nil
 · exact .nilp
 · rename_i f a c j
   simp only[aLr,decide_eq_true_eq,Array.isEmpty_iff]at h
   obtain⟨⟨hj,rfl⟩,rfl⟩:=h
   exact .fn _ _ hj [] [] rfl fun i v c hv=>by simp at hv
 · rename_i vs ts
   obtain⟨h1,h2,h3⟩:=IG h
   have:=lP.agg (F:=F) vs.toList ts h1 h2 (h3 F)
   exact .t _ _ (by simpa using this)
 · rename_i vs ts
   obtain⟨h1,h2,h3⟩:=C6 h
   have:=bF.agg (F:=F) (g:=g) (S:=S) vs.toList ts h1 h2 (h3 F g S)
   simpa using this
 · exact .und _
 · cases h
section
variable {P : Program} {ρ : Operand → Value} {F : Fz} {g : Gh} {H : af} {w : World}
theorem XD{f:BinOp}{a b r:D}{va vb:Value}(ha:bF F g (shp H) va a)(hb:bF F g (shp H) vb b)(h:FT f a b=some r)(t:TypeId)(x y:Operand):
 ∃v,(do eqGuard f t x y va vb;binOp f t va vb:Sem Value).run P w= .ok v w∧bF F g (shp H) v r:=by
 unfold FT at h
 split at h
 · rename_i j m k n
   cases ha with | t _ _ ha=>
   cases hb with | t _ _ hb=>
   cases ha;cases hb
   obtain⟨q,hy,rfl⟩:=aLb.1 h
   have he:eqGuard f t x y (.int j m) (.int k n)=pure ():=by cases f<;>rfl
   have key:∀z,q=z→(binOp f t (.int j m) (.int k n)).run P w= .ok (match z with | .int k n=> .int k n | .bool b=> .bool b | _=> .bool false) w→
    ((∃k n,z= .int k n)∨∃b,z= .bool b)→∃v,(do eqGuard f t x y (.int j m) (.int k n);binOp f t (.int j m) (.int k n):Sem Value).run P w= .ok v w∧bF F g (shp H) v (.t q):=by
    intro z hz hr hc
    subst hz
    refine⟨_,by rw[he];simpa using hr,?_⟩
    rcases hc with⟨k,n,rfl⟩ | ⟨b,rfl⟩
    · exact .t _ _ (.int _ _)
    · exact .t _ _ (.bool _)
   split at hy
   · simp only[FR]at hy
     split at hy
     · cases hy
     · rename_i hneg
       cases hy
       exact key _ rfl (by simp[binOp,Op.shift,hneg]) (.inl ⟨_,_,rfl⟩)
   · simp only[FR]at hy
     split at hy
     · cases hy
     · rename_i hneg
       cases hy
       exact key _ rfl (by simp[binOp,Op.shift,hneg]) (.inl ⟨_,_,rfl⟩)
   · rename_i hne1 hne2
     split at hy
     · rename_i hjk
       subst hjk
       unfold Kb at hy
       split at hy<;>first
        | (cases hy;exact key _ rfl (by simp[binOp,Op.intArith,Op.intBits,Op.intCmp]) (by first | exact .inl ⟨_,_,rfl⟩ | exact .inr ⟨_,rfl⟩))
        | (split at hy
           · cases hy
           · rename_i hb0;cases hy;exact key _ rfl (by simp[binOp,Op.intDiv,hb0]) (.inl ⟨_,_,rfl⟩))
        | cases hy
     · cases hy
 · cases h
theorem aeP{f:UnOp}{a r:D}{va:Value}(ha:bF F g (shp H) va a)(h:unD f a=some r):
 ∃v,(Op.unary f va).run P w= .ok v w∧bF F g (shp H) v r:=by
 unfold unD at h
 split at h
 · cases ha with | t _ _ ha=>
   cases ha;cases h
   exact⟨_,rfl,.t _ _ (.bool _)⟩
 · cases ha with | t _ _ ha=>
   cases ha;cases h
   exact⟨_,rfl,.t _ _ (.int _ _)⟩
 · cases h
end
end Go.Ev
namespace Go.Ev
open Go
variable [Names]
def TG(P:Program):Nat→List Field→Bool
 | _,[]=>true
 | k, f :: fs => f.name != "_" && (match P.underlying f.type with | some (.int _) => true | _ => false) && f.offset == k && TG P (k + 1) fs
def aiC(f:TypeId→Option (List Bool)):Nat→List Field→Option (List Bool)
 | _,[]=>some []
 | k, g :: gs => if g.name != "_" && g.offset == k then (f g.type).bind fun n => (aiC f (k + n.length) gs).map (n ++ ·) else none
def XE(P:Program):Nat→TypeId→Option (List Bool)
 | 0,_=>none
 | d+1,t=>match P.underlying t with
   | some (.int _)=>some [true]
   | some .bool=>some [false]
   | some (.struct fs)=>if P.stoodInHeld t then none else(aiC (XE P d) 0 fs.toList).bind fun n=>if vd P t=some n.length then some n else none
   | _=>none
def Cb(P:Program)(t:TypeId):EqK→Bool
 | .bool=>match P.underlying t with | some .bool=>true | _=>false
 | .str=>match P.underlying t with | some .string=>true | _=>false
 | .sl=>match P.underlying t with | some (.slice _)=>true | _=>false
 | .ints n=>match P.underlying t with
   | some (.struct fs)=>decide (fs.toList.length=n)&&TG P 0 fs.toList&& !P.stoodInHeld t&& !P.eqGuardType P.depth t
   | _=>false
 | .sc ks=>match P.underlying t with
   | some (.struct _)=>decide (XE P 4 t=some ks)&& !P.eqGuardType P.depth t
   | _=>false
section
variable {P : Program} {ρ : Operand → Value} {F : Fz} {g : Gh} {H : af} {w : World}
theorem Bo{t:TypeId}{k:IntKind}{cs:Array Value}{off:Nat}{v:Value}(ht:P.underlying t=some (.int k))(h:cs[off]?=some v):(part t cs off).run P w= .ok v w:=by
 simp[part,isAgg,run_underlying ht,h]
theorem Au{d:Nat}{vx vy:List Value}{n:Nat}:∀ {fs:List Field} {k:Nat} {xs ys:List T} {b:Bool},TG P k fs=true→
 (∀(i:Nat) x,xs[i]?=some x→∃v,vx[k+i]?=some v∧lP F v x)→(∀(i:Nat) y,ys[i]?=some y→∃v,vy[k+i]?=some v∧lP F v y)→
 xs.length=fs.length→n=fs.length→qm xs ys=some b→(Op.eqFields (d+1) vx.toArray vy.toArray fs).run P w= .ok b w:=by
 intro fs
 induction fs generalizing n with
 | nil=>
   intro k xs ys b _ _ _ hl _ h
   have:xs=[]:=List.length_eq_zero_iff.1 hl
   subst this
   cases ys with
   | nil=>simp[qm]at h;subst h;simp[Op.eqFields]
   | cons=>simp[qm]at h
 | cons f fs ih=>
   intro k xs ys b hf hx hy hl hn h
   simp only[TG,aLr,beq_iff_eq,bne_iff_ne]at hf
   obtain⟨⟨⟨h1,h2⟩,h3⟩,h4⟩:=hf
   cases xs with
   | nil=>simp at hl
   | cons x xs=>
     cases ys with
     | nil=>simp[qm]at h
     | cons y ys=>
       unfold qm at h
       split at h
       · rename_i heq1 heq2;cases heq1
       · rename_i j a xs' kk bb ys' heq1 heq2
         cases heq1;cases heq2
         split at h
         · rename_i hjk
           subst hjk
           obtain⟨r,hr,rfl⟩:=aLb.1 h
           obtain⟨v,hv,hrv⟩:=hx 0 _ rfl
           obtain⟨u,hu,hru⟩:=hy 0 _ rfl
           cases hrv;cases hru
           have hih:=ih (n:=n-1) (k:=k+1) (xs:=xs) (ys:=ys) (b:=r) h4 (fun i x hi=>by
            have:=hx (i+1) x (by simpa using hi)
            rwa [show k+(i+1)=k+1+i by omega]at this) (fun i y hi=>by
            have:=hy (i+1) y (by simpa using hi)
            rwa [show k+(i+1)=k+1+i by omega]at this) (by simpa using hl) (by simp at hn;omega) hr
           split at h2
           · rename_i kk2 hund
             subst h3
             simp only[Nat.add_zero]at hv hu
             have p1:(part f.type vx.toArray f.offset).run P w= .ok (.int j a) w:=Bo hund (by simpa using hv)
             have p2:(part f.type vy.toArray f.offset).run P w= .ok (.int j bb) w:=Bo hund (by simpa using hu)
             have p3:=run_equalIn_int (P:=P) w d f.type j kk2 a bb hund
             simp only[Op.eqFields,h1,ne_eq,not_false_eq_true,if_true,Sem.run_bind,p1,p2,Result.andThen_ok,p3,Sem.run_ite]
             by_cases hab:a=bb
             · subst hab;simp[hih]
             · have:(a==bb)=false:=by simp[hab]
               simp[this]
           · cases h2
         · cases h
       · cases h
theorem vA:∀ {ks:List Bool} {a b:List T} {r:Bool},nW ks a b=some r→a.length=ks.length∧b.length=ks.length
 | [],[],[],_,_=>⟨rfl,rfl⟩
 | k::ks,[],b,_,h=>by cases k<;>cases h
 | k::ks,x::a,[],_,h=>by cases k<;>cases x<;>cases h
 | true::ks,x::a,y::b,r,h=>by
   cases x<;>cases y<;>simp only[nW,reduceCtorEq]at h
   split at h
   · obtain⟨s,hs,rfl⟩:=aLb.1 h
     obtain⟨h1,h2⟩:=vA hs
     simp[h1,h2]
   · cases h
 | false::ks,x::a,y::b,r,h=>by
   cases x<;>cases y<;>simp only[nW,reduceCtorEq]at h
   obtain⟨s,hs,rfl⟩:=aLb.1 h
   obtain⟨h1,h2⟩:=vA hs
   simp[h1,h2]
 | [],_::_,_,_,h=>by simp[nW]at h
 | [],[],_::_,_,h=>by simp[nW]at h
theorem C7:∀ {ks:List Bool} {js:List Bool} {a b:List T} {r:Bool},nW (ks++js) a b=some r→∃r1 r2,nW ks (a.take ks.length) (b.take ks.length)=some r1∧nW js (a.drop ks.length) (b.drop ks.length)=some r2∧r=(r1&&r2)
 | [],js,a,b,r,h=>⟨true,r,rfl,h,by simp⟩
 | k::ks,js,[],b,_,h=>by cases k<;>cases h
 | k::ks,js,x::a,[],_,h=>by cases k<;>cases x<;>cases h
 | true::ks,js,x::a,y::b,r,h=>by
   cases x<;>cases y<;>simp only[List.cons_append,nW,reduceCtorEq]at h
   split at h
   · rename_i e
     obtain⟨s,hs,rfl⟩:=aLb.1 h
     obtain⟨r1,r2,h1,h2,rfl⟩:=C7 hs
     exact⟨_,r2,(by simp only[List.length_cons,List.take_succ_cons,nW,e,if_true,h1,aLw]),h2,(Bool.and_assoc ..).symm⟩
   · cases h
 | false::ks,js,x::a,y::b,r,h=>by
   cases x<;>cases y<;>simp only[List.cons_append,nW,reduceCtorEq]at h
   obtain⟨s,hs,rfl⟩:=aLb.1 h
   obtain⟨r1,r2,h1,h2,rfl⟩:=C7 hs
   exact⟨_,r2,(by simp only[List.length_cons,List.take_succ_cons,nW,h1,aLw]),h2,(Bool.and_assoc ..).symm⟩
def ScV(P:Program)(t:TypeId)(vs:List Value)(v:Value):Prop:=match P.underlying t with
 | some (.struct _)=>v= .agg vs.toArray
 | _=>vs=[v]
theorem PQ{d:Nat}{t:TypeId}{ks:List Bool}(h:XE P d t=some ks)(cs:List Value)(off:Nat)(hl:off+ks.length≤cs.length)(w:World):
 ∃v,(part t cs.toArray off).run P w= .ok v w∧ScV P t ((cs.drop off).take ks.length) v:=by
 cases d with
 | zero=>cases h
 | succ d=>
   have one:∀ {ds:TypeDesc},P.underlying t=some ds→Kc P t=some false→ks.length=1→(∀fs,ds≠ .struct fs)→∃v,(part t cs.toArray off).run P w= .ok v w∧ScV P t ((cs.drop off).take ks.length) v:=by
    intro ds hu ha hn hne
    have hlt:off<cs.length:=by omega
    refine⟨cs[off],by simp[part,yP ha,hlt],?_⟩
    unfold ScV
    rw[hu,hn]
    have e:(cs.drop off).take 1=[cs[off]]:=by rw[List.drop_eq_getElem_cons hlt];rfl
    cases ds<;>first | exact e | exact(hne _ rfl).elim
   unfold XE at h
   split at h
   · rename_i hu;exact one hu (by simp[Kc,hu]) (by cases h;rfl) (fun _ e=>by cases e)
   · rename_i hu;exact one hu (by simp[Kc,hu]) (by cases h;rfl) (fun _ e=>by cases e)
   · rename_i fs hu
     split at h
     · cases h
     · obtain⟨m,hm,h⟩:=aLa.1 h
       split at h
       · rename_i hs
         cases h
         refine⟨.agg (cs.toArray.extract off (off+ks.length)),by simp[part,yP (b:=true) (by simp[Kc,hu]:Kc P t=some true),run_sizeOf hs],?_⟩
         unfold ScV
         rw[hu]
         simp[List.extract_eq_take_drop]
       · cases h
   · cases h
theorem ak3:∀(d:Nat) {t:TypeId} {ks:List Bool} {vx vy:List Value} {xs ys:List T} {x y:Value} {b:Bool} (m:Nat) (w:World),XE P d t=some ks→ScV P t vx x→ScV P t vy y→vx.length=ks.length→vy.length=ks.length→
 (∀(i:Nat) v c,vx[i]?=some v→xs[i]?=some c→lP F v c)→(∀(i:Nat) v c,vy[i]?=some v→ys[i]?=some c→lP F v c)→nW ks xs ys=some b→
 (Op.equalIn (d+m) t x y).run P w= .ok b w:=by
 intro d
 induction d with
 | zero=>intro t ks vx vy xs ys x y b m w h;cases h
 | succ d ih=>
   intro t ks vx vy xs ys x y b m w h hx hy lvx lvy rx ry he
   have fu:d+1+m=(d+m)+1:=by omega
   rw[fu]
   unfold XE at h
   unfold ScV at hx hy
   split at h
   · rename_i k hu
     rw[hu]at hx hy
     cases h
     subst hx hy
     obtain⟨l1,l2⟩:=vA he
     match xs,l1,ys,l2,he with
     | [c],_,[e],_,he=>
       have h1:=rx 0 _ _ rfl rfl
       have h2:=ry 0 _ _ rfl rfl
       cases c<;>cases e<;>simp only[nW,reduceCtorEq]at he
       split at he
       · rename_i e;subst e
         cases h1;cases h2
         simp at he
         subst he
         exact run_equalIn_int w _ t _ _ _ _ hu
       · cases he
   · rename_i hu
     rw[hu]at hx hy
     cases h
     subst hx hy
     obtain⟨l1,l2⟩:=vA he
     match xs,l1,ys,l2,he with
     | [c],_,[e],_,he=>
       have h1:=rx 0 _ _ rfl rfl
       have h2:=ry 0 _ _ rfl rfl
       cases c<;>cases e<;>simp only[nW,reduceCtorEq,aLw,Option.some.injEq,Bool.and_true]at he
       cases h1;cases h2
       subst he
       exact run_equalIn_bool' w _ t _ _ hu
   · rename_i fs hu
     rw[hu]at hx hy
     subst hx hy
     split at h
     · cases h
     · rename_i hs
       obtain⟨ks',hf,h⟩:=aLa.1 h
       split at h
       · cases h
         have hfo:P.fieldsOf t=fs:=by simp[Program.fieldsOf,hu]
         rw[run_equalIn_struct w _ t vx.toArray vy.toArray (by rw[hfo];exact hu) (by simpa using hs),hfo]
         have key:∀(gs:List Field) (k:Nat) (js:List Bool) (xs' ys':List T) (b:Bool),aiC (XE P d) k gs=some js→k+js.length=ks.length→xs'=xs.drop k→ys'=ys.drop k→nW js xs' ys'=some b→
          (Op.eqFields (d+m) vx.toArray vy.toArray gs).run P w= .ok b w:=by
          intro gs
          induction gs with
          | nil=>
            intro k js xs' ys' b h1 _ _ _ h2
            cases h1
            match xs',ys',h2 with
            | [],[],h2=>cases h2;simp[Op.eqFields]
          | cons g gs ihg=>
            intro k js xs' ys' b h1 hk ex ey h2
            unfold aiC at h1
            split at h1
            · rename_i hc
              simp only[aLr,bne_iff_ne,ne_eq,beq_iff_eq]at hc
              obtain⟨hn,ho⟩:=hc
              obtain⟨s,h3,h1⟩:=aLa.1 h1
              obtain⟨js',h4,rfl⟩:=aLb.1 h1
              rw[aLv]at hk
              obtain⟨r1,r2,e1,e2,rfl⟩:=C7 h2
              subst ex ey
              obtain⟨v1,p1,q1⟩:=PQ (P:=P) h3 vx g.offset (by omega) w
              obtain⟨v2,p2,q2⟩:=PQ (P:=P) h3 vy g.offset (by omega) w
              subst ho
              have sub:∀ {vs:List Value} {zs:List T},(∀(i:Nat) v c,vs[i]?=some v→zs[i]?=some c→lP F v c)→∀(i:Nat) v c,((vs.drop g.offset).take s.length)[i]?=some v→((zs.drop g.offset).take s.length)[i]?=some c→lP F v c:=by
               intro vs zs hr i v c hv hc
               rw[aLo]at hv hc
               split at hv
               · rename_i hi
                 rw[if_pos hi,List.getElem?_drop]at hc
                 rw[List.getElem?_drop]at hv
                 exact hr _ v c hv hc
               · cases hv
              have eq:=ih (vx:=(vx.drop g.offset).take s.length) (vy:=(vy.drop g.offset).take s.length) (xs:=(xs.drop g.offset).take s.length) (ys:=(ys.drop g.offset).take s.length) (b:=r1) m w h3 q1 q2
               (by simp;omega) (by simp;omega) (sub rx) (sub ry) e1
              have rest:=ihg (g.offset+s.length) js' _ _ r2 h4 (by omega) (by rw[List.drop_drop]) (by rw[List.drop_drop]) e2
              simp only[Op.eqFields,hn,ne_eq,not_false_eq_true,if_true,Sem.run_bind,p1,p2,Result.andThen_ok,eq,Sem.run_ite]
              cases r1
              · simp
              · simp[rest]
            · cases h1
         exact key fs.toList 0 ks xs ys b hf (by omega) rfl rfl he
       · cases h
   · cases h
theorem km{t e:TypeId}(hu:P.underlying t=some (.slice e))(d:Nat)(a:Addr)(n c n' c':Nat):(Op.equalIn (d+1) t (.slice (some a) n c) (.slice none n' c')).run P w= .ok false w:=by
 simp[Op.equalIn,run_underlying hu]
theorem Cc{t e:TypeId}(hu:P.underlying t=some (.slice e))(d:Nat)(a:Addr)(n c n' c':Nat):(Op.equalIn (d+1) t (.slice none n' c') (.slice (some a) n c)).run P w= .ok false w:=by
 simp[Op.equalIn,run_underlying hu]
theorem xl{t e:TypeId}(hu:P.underlying t=some (.slice e))(d:Nat)(n c n' c':Nat):(Op.equalIn (d+1) t (.slice none n' c') (.slice none n c)).run P w= .ok true w:=by
 simp[Op.equalIn,run_underlying hu]
theorem XF{q:EqK}{neg:Bool}{f:BinOp}(hf:f=if neg then .neq else .eql){t:TypeId}(hq:Cb P t q=true){a b:D}{r:Bool}{va vb:Value}
 (ha:bF F g (shp H) va a) (hb:bF F g (shp H) vb b) (h:eqD q a b=some r) (x y:Operand):
 (do eqGuard f t x y va vb;binOp f t va vb:Sem Value).run P w= .ok (.bool (if neg then !r else r)) w:=by
 -- from the comparison itself
 have key:(eqGuard f t x y va vb).run P w= .ok () w→(Op.equal t va vb).run P w= .ok r w→
  (∀w':World,(binOp .eql t va vb)=(do pure (.bool (← Op.equal t va vb)):Sem Value))→(∀w':World,(binOp .neq t va vb)=(do pure (.bool (!(← Op.equal t va vb))):Sem Value))→
  (do eqGuard f t x y va vb;binOp f t va vb:Sem Value).run P w= .ok (.bool (if neg then !r else r)) w:=by
  intro h1 h2 h3 h4
  simp only[Sem.run_bind,h1,Result.andThen_ok]
  subst hf
  cases neg
  · simp only[aLt,if_false,h3 w,Sem.run_bind,h2,Result.andThen_ok,Sem.run_pure]
  · simp only[if_true,h4 w,Sem.run_bind,h2,Result.andThen_ok,Sem.run_pure]
 have gd:(eqGuard f t x y va vb)=pure ()→(eqGuard f t x y va vb).run P w= .ok () w:=fun h=>by rw[h];rfl
 unfold eqD at h
 split at h
 · -- bools
   cases ha with | t _ _ ha=>
   cases hb with | t _ _ hb=>
   cases ha;cases hb;cases h
   unfold Cb at hq
   simp only at hq
   split at hq
   · rename_i hu
     exact key (gd (by cases f<;>rfl)) (run_equalIn_bool' w 9999 t _ _ hu) (fun _=>rfl) (fun _=>rfl)
   · cases hq
 · -- strings
   cases ha with | t _ _ ha=>
   cases hb with | t _ _ hb=>
   cases ha;cases hb;cases h
   unfold Cb at hq
   simp only at hq
   split at hq
   · rename_i hu
     rename_i s u _
     have:=run_equalIn_string (P:=P) w 9999 t s u hu
     rw[← beq_toListBytes]at this
     have e1:∀s u:ByteArray,(Op.stringOp .eql s u).run P w= .ok (.bool (s==u)) w:=fun s u=>by simp[Op.stringOp,beq_toListBytes]
     have e2:∀s u:ByteArray,(Op.stringOp .neq s u).run P w= .ok (.bool (!(s==u))) w:=fun s u=>by simp[Op.stringOp,beq_toListBytes]
     subst hf
     cases neg
     · simp only[aLt,if_false,eqGuard_at_string,Sem.run_bind,Sem.run_pure,Result.andThen_ok,binOp,e1]
     · simp only[if_true,eqGuard_at_string,Sem.run_bind,Sem.run_pure,Result.andThen_ok,binOp,e2]
   · cases hq
 · -- structs of integers
   rename_i n xs ys
   split at h
   · rename_i hn
     cases ha with | t _ _ ha=>
     cases hb with | t _ _ hb=>
     cases ha with | agg vx _ hlx hvx hrx=>
     cases hb with | agg vy _ hly hvy hry=>
     unfold Cb at hq
     simp only at hq
     split at hq
     · rename_i fs hu
       simp only[aLr,Bool.not_eq_true',decide_eq_true_eq]at hq
       obtain⟨⟨⟨h0,h1⟩,h2⟩,h3⟩:=hq
       have hfo:P.fieldsOf t=fs:=by simp[Program.fieldsOf,hu]
       have hu':P.underlying t=some (.struct (P.fieldsOf t)):=by rw[hfo];exact hu
       have e:=run_equalIn_struct (P:=P) w 9999 t vx.toArray vy.toArray hu' h2
       rw[hfo,Au (d:=9998) (F:=F) (n:=fs.toList.length) (k:=0) (xs:=xs) (ys:=ys) (b:=r) h1
        (fun i x hi=>by
         obtain⟨v,hv⟩:=ah hlx.symm hi
         exact⟨v,by simpa using hv,hrx i v x hv hi⟩)
        (fun i y hi=>by
         obtain⟨v,hv⟩:=ah hly.symm hi
         exact⟨v,by simpa using hv,hry i v y hv hi⟩) (hn.trans h0.symm) rfl h]at e
       exact key (run_eqGuard_agg w f t x y _ _ h3) e (fun _=>rfl) (fun _=>rfl)
     · cases hq
   · cases h
 · -- structs of scalars
   rename_i ks xs ys
   cases ha with | t _ _ ha=>
   cases hb with | t _ _ hb=>
   cases ha with | agg vx _ hlx hvx hrx=>
   cases hb with | agg vy _ hly hvy hry=>
   unfold Cb at hq
   simp only at hq
   split at hq
   · rename_i fs hu
     simp only[aLr,Bool.not_eq_true',decide_eq_true_eq]at hq
     obtain⟨h1,h3⟩:=hq
     obtain⟨l1,l2⟩:=vA h
     have e:=ak3 (P:=P) (F:=F) 4 (x:= .agg vx.toArray) (y:= .agg vy.toArray) 9996 w h1 (by unfold ScV;rw[hu]) (by unfold ScV;rw[hu]) (by omega) (by omega) hrx hry h
     exact key (run_eqGuard_agg w f t x y _ _ h3) e (fun _=>rfl) (fun _=>rfl)
   · cases hq
 · -- slices against nil
   cases ha with | t _ _ ha=>
   cases hb
   cases h
   cases ha with | sl b off cap sz es cv hcap hsz hF hr=>
   unfold Cb at hq
   simp only at hq
   split at hq
   · rename_i hu
     exact key (gd (by cases f<;>rfl)) (km hu 9999 _ _ _ _ _) (fun _=>rfl) (fun _=>rfl)
   · cases hq
 · cases hb with | t _ _ hb=>
   cases ha
   cases h
   cases hb with | sl b off cap sz es cv hcap hsz hF hr=>
   unfold Cb at hq
   simp only at hq
   split at hq
   · rename_i hu
     exact key (gd (by cases f<;>rfl)) (Cc hu 9999 _ _ _ _ _) (fun _=>rfl) (fun _=>rfl)
   · cases hq
 · cases ha;cases hb;cases h
   unfold Cb at hq
   simp only at hq
   split at hq
   · rename_i hu
     exact key (gd (by cases f<;>rfl)) (xl hu 9999 _ _ _ _) (fun _=>rfl) (fun _=>rfl)
   · cases hq
 · -- a live array against nil
   cases hb
   cases h
   unfold Cb at hq
   simp only at hq
   split at hq
   · rename_i hu
     cases ha with
     | ref _ _ _ sz og hg hs hn=>
       obtain⟨a,c,e,h0⟩:=FV og _ hn
       revert gd key
       rw[e]
       intro gd key
       cases a with
       | none=>exact absurd (h0 rfl) (by omega)
       | some a=>exact key (gd (by cases f<;>rfl)) (km hu 9999 _ _ _ _ _) (fun _=>rfl) (fun _=>rfl)
     | refOld a c _ _ _ sz ep' n' hs hp hn=>
       cases a with
       | none=>exact absurd (hn rfl) (by omega)
       | some a=>exact key (gd (by cases f<;>rfl)) (km hu 9999 _ _ _ _ _) (fun _=>rfl) (fun _=>rfl)
   · cases hq
 · cases h
theorem TH{q:EqK}{neg:Bool}{f:BinOp}(hf:f=if neg then .neq else .eql){t:TypeId}(hq:Cb P t q=true){a b d:D}{va vb:Value}
 (ha:bF F g (shp H) va a) (hb:bF F g (shp H) vb b) (h:VL q neg a b=some d) (x y:Operand):
 ∃v,(do eqGuard f t x y va vb;binOp f t va vb:Sem Value).run P w= .ok v w∧fM v=true∧bF F g (shp H) v d:=by
 unfold VL at h
 split at h
 · rename_i r hr
   cases h
   exact⟨_,XF hf hq ha hb hr x y,rfl,.t _ _ (.bool _)⟩
 · split at h
   · cases h
     cases hb
     have hq':=hq
     unfold Cb at hq'
     simp only at hq'
     split at hq'
     · rename_i u hu
       have key:∀(sa:Option Addr) (cp:Nat) (r:Bool),(Op.equal t (.slice sa 0 cp) (.slice none 0 0)).run P w= .ok r w→∃v,(do eqGuard f t x y (.slice sa 0 cp) (.slice none 0 0);binOp f t (.slice sa 0 cp) (.slice none 0 0):Sem Value).run P w= .ok v w∧fM v=true∧bF F g (shp H) v .ub:=by
        intro sa cp r h2
        have h1:(eqGuard f t x y (.slice sa 0 cp) (.slice none 0 0)).run P w= .ok () w:=by
         have:eqGuard f t x y (.slice sa 0 cp) (.slice none 0 0)=pure ():=by subst hf;cases neg<;>rfl
         rw[this];rfl
        refine⟨.bool (if neg then !r else r),?_,rfl,.ub _⟩
        simp only[Sem.run_bind,h1,Result.andThen_ok]
        subst hf
        cases neg
        · have e:(binOp .eql t (.slice sa 0 cp) (.slice none 0 0))=(do pure (.bool (← Op.equal t (.slice sa 0 cp) (.slice none 0 0))):Sem Value):=rfl
          simp only[aLt,if_false,e,Sem.run_bind,h2,Result.andThen_ok,Sem.run_pure]
        · have e:(binOp .neq t (.slice sa 0 cp) (.slice none 0 0))=(do pure (.bool (!(← Op.equal t (.slice sa 0 cp) (.slice none 0 0)))):Sem Value):=rfl
          simp only[if_true,e,Sem.run_bind,h2,Result.andThen_ok,Sem.run_pure]
       cases ha with
       | t _ _ ha=>
         cases ha with
         | sl0 a cap=>
           cases a with
           | none=>exact key _ _ true (xl hu 9999 _ _ _ _)
           | some ad=>exact key _ _ false (km hu 9999 _ _ _ _ _)
         | sl b off cap sz es cv hcap hsz hF hh=>exact key _ _ false (km hu 9999 _ _ _ _ _)
     · cases hq'
   · cases h
end
end Go.Ev
namespace Go.Ev
open Go
variable [Names]
theorem iH(b o n:Nat):(⟨b,o,none⟩:Addr).add n=⟨b,o+n,none⟩:=by
 unfold Addr.add;split<;>simp_all
def ya(F:Fz)(g:Gh)(S:Nat→Option Sh)(vs:List Value)(cs:List D):Prop:=
 vs.length=cs.length∧(∀v∈vs,fM v=true)∧∀(i:Nat) v c,vs[i]?=some v→cs[i]?=some c→bF F g S v c
theorem C8:∀ {cs:List D} {ts:List T},tw cs=some ts→cs=ts.map D.t
 | [],ts,h=>by simp[tw]at h;subst h;rfl
 | .t x::cs,ts,h=>by
   simp only[tw,aLb]at h
   obtain⟨r,hr,rfl⟩:=h
   simp[C8 hr]
 | .nil::cs,ts,h=>by simp[tw]at h
 | .agg _::cs,ts,h=>by simp[tw]at h
 | .bp _ _::cs,ts,h=>by simp[tw]at h
 | .ap _ _ _ _ _::cs,ts,h=>by simp[tw]at h
 | .ep _::cs,ts,h=>by simp[tw]at h
 | .ref _ _ _::cs,ts,h=>by simp[tw]at h
 | .sub _ _ _ _ _::cs,ts,h=>by simp[tw]at h
 | .fn _ _::cs,ts,h=>by simp[tw]at h
 | .tup _::cs,ts,h=>by simp[tw]at h
 | .nilp::cs,ts,h=>by simp[tw]at h
 | .und::cs,ts,h=>by simp[tw]at h
section
variable {P : Program} {ρ : Operand → Value} {F : Fz} {g : Gh} {H : af} {w : World}
theorem C9{S:Nat→Option Sh}{vs:List Value}{cs:List D}(h:ya F g S vs cs):bF F g S (.agg vs.toArray) (xa cs):=by
 unfold xa
 split
 · rename_i ts hts
   have:=C8 hts
   subst this
   refine .t _ _ (.agg vs ts (by simpa using h.1) h.2.1 fun i v t hv ht=>?_)
   have:=h.2.2 i v (.t t) hv (by simp[ht])
   cases this with | t _ _ h=>exact h
 · exact .agg vs cs h.1 h.2.1 h.2.2
def yQ(agg:Bool)(vs:List Value):Value:=if agg then .agg vs.toArray else vs.getD 0 undef
theorem yb{S:Nat→Option Sh}{agg:Bool}{vs:List Value}{cs:List D}{d:D}(h:ya F g S vs cs)(hd:fU agg cs=some d):bF F g S (yQ agg vs) d:=by
 unfold fU at hd
 split at hd
 · rename_i ha
   cases hd
   simp only[yQ,ha,if_true]
   exact C9 h
 · rename_i ha
   split at hd
   · cases hd
     simp only[yQ,ha]
     match vs,h with
     | [v],h=>exact h.2.2 0 v d rfl rfl
     | [],h=>have:=h.1;simp at this
     | _::_::_,h=>have:=h.1;simp at this
   · cases hd
theorem yc{agg:Bool}{cs:List D}{d:D}(hd:fU agg cs=some d)(ha:agg=false):cs.length=1:=by
 subst ha
 simp only[fU]at hd
 split at hd
 · contradiction
 · split at hd
   · rfl
   · cases hd
theorem Da{t:TypeId}{agg:Bool}{vs:List Value}{a:Addr}(hs:vd P t=some vs.length)(ha:Kc P t=some agg)(h1:agg=false→vs.length=1)
 (hc:∀(j:Nat) v,vs[j]?=some v→w.cell? (a.add j)=some v):(loadVar t a).run P w= .ok (yQ agg vs) w:=by
 have hl:=run_loadCells_list (P:=P) w a vs hc
 simp only[loadVar,Sem.run_bind,yP ha,Result.andThen_ok,Sem.run_ite]
 cases agg with
 | true=>simp[run_sizeOf hs,hl,yQ]
 | false=>
   match vs,h1 rfl with
   | [v],_=>
     have:=hc 0 v rfl
     simp only[Addr.add_zero']at this
     simp[run_load,this,yQ]
theorem GS{cs xs:List D}{off n:Nat}(h:cut cs off n=some xs):xs.length=n∧off+n≤cs.length∧∀j,j<n→xs[j]?=cs[off+j]?:=by
 unfold cut at h
 split at h
 · rename_i hle
   cases h
   refine⟨by simp;omega,hle,fun j hj=>?_⟩
   rw[aLo,if_pos hj,List.getElem?_drop]
 · cases h
theorem collect{S:Nat→Option Sh}:∀ {xs:List D} {Q:Nat→Value→Prop},(∀(j:Nat) d,xs[j]?=some d→∃u,Q j u∧fM u=true∧bF F g S u d)→
 ∃vs:List Value,ya F g S vs xs∧∀(j:Nat) u,vs[j]?=some u→Q j u
 | [],Q,_=>⟨[],⟨rfl,by simp,fun i v c hv=>by simp at hv⟩,fun j u hu=>by simp at hu⟩
 | x::xs,Q,h=>by
   obtain⟨vs,⟨h1,h2,h3⟩,h4⟩:=collect (xs:=xs) (Q:=fun j u=>Q (j+1) u) (fun j d hd=>h (j+1) d (by simpa using hd))
   obtain⟨u,hq,hl,hr⟩:=h 0 x rfl
   refine⟨u::vs,⟨by simp[h1],by simpa [hl]using h2,fun i v c hv hc=>?_⟩,fun j v hv=>?_⟩
   · cases i with
     | zero=>simp at hv hc;subst hv;subst hc;exact hr
     | succ i=>simp at hv hc;exact h3 i v c hv hc
   · cases j with
     | zero=>simp at hv;subst hv;exact hq
     | succ j=>simp at hv;exact h4 j v hv
theorem Db(hH:az F g H w){v:Value}{p:D}(hp:bF F g (shp H) v p){n:Nat}{agg:Bool}{d:D}(h:Ak H p n agg=some d):
 ∃b o vs cs,v= .pointer (some ⟨b,o,none⟩)∧vs.length=n∧ya F g (shp H) vs cs∧fU agg cs=some d∧(∀(j:Nat) u,vs[j]?=some u→w.cell? ⟨b,o+j,none⟩=some u):=by
 have fin:∀ {b o:Nat} {xs:List D},v= .pointer (some ⟨b,o,none⟩)→xs.length=n→fU agg xs=some d→
  (∀(j:Nat) d,xs[j]?=some d→∃u,w.cell? ⟨b,o+j,none⟩=some u∧fM u=true∧bF F g (shp H) u d)→
  ∃b o vs cs,v= .pointer (some ⟨b,o,none⟩)∧vs.length=n∧ya F g (shp H) vs cs∧fU agg cs=some d∧(∀(j:Nat) u,vs[j]?=some u→w.cell? ⟨b,o+j,none⟩=some u):=by
  intro b o xs hv hl hd hc
  obtain⟨vs,h1,h2⟩:=collect (Q:=fun j u=>w.cell? ⟨b,o+j,none⟩=some u) hc
  exact⟨b,o,vs,xs,hv,h1.1.trans hl,h1,hd,h2⟩
 unfold Ak at h
 split at h
 · -- a variable
   rename_i id off
   split at h
   · rename_i cs hid
     obtain⟨xs,hxs,hd⟩:=aLa.1 h
     obtain⟨c1,c2,c3⟩:=GS hxs
     cases hp with
     | bp _ _ b cap hg hs=>
     have hf:=hH.fits id _ _ hid hg
     obtain⟨b',c,ty,hb,hc,hsz,hv,_⟩:=hf.born
     cases hb
     refine fin rfl c1 hd fun j e he=>?_
     have hj:=aj he
     rw[c3 j (by omega)]at he
     have hlt:off+j<c.size:=by have:=aj he;omega
     have hu:c[off+j]?=some c[off+j]:=Array.getElem?_eq_getElem hlt
     obtain⟨k1,k2⟩:=hv (off+j) _ e hu he
     exact⟨_,by simp only[World.cell?,hc];simpa using hu,k1,k2⟩
   · cases h
 · -- an element of a live array
   rename_i id ep m i off
   obtain⟨a,ha,h⟩:=aLa.1 h
   obtain⟨e,he,h⟩:=aLa.1 h
   obtain⟨xs,hxs,hd⟩:=aLa.1 h
   obtain⟨c1,c2,c3⟩:=GS hxs
   obtain⟨hid,hm⟩:=eK ha
   cases hp with
   | apOld _ _ _ _ _ _ sz ep' n' hs hpast=>rw[mm hid]at hs;cases hs;subst hm;exact(CN hpast).elim
   | ap _ _ _ _ _ sz b cap hg hs=>
     rw[mm hid]at hs;cases hs
     have hf:=hH.fits id _ _ hid hg
     rcases hf with⟨h1,_⟩ | ⟨b',c,ty,hb,hc,hsz,hle,hz,hcell,_⟩
     · cases h1
     · cases hb
       refine fin rfl c1 hd fun j x hx=>?_
       have hj:=aj hx
       rw[c3 j (by omega)]at hx
       obtain⟨u,h1,h2,h3⟩:=hcell i e (off+j) x he hx
       exact⟨u,by simp only[World.cell?,hc];simpa [Nat.add_assoc]using h1,h2,h3⟩
 · -- frozen cells
   rename_i ts
   obtain⟨xs,hxs,hd⟩:=aLa.1 h
   obtain⟨c1,c2,c3⟩:=GS hxs
   cases hp with
   | ep _ b off cv hF hr=>
     refine fin rfl c1 hd fun j x hx=>?_
     have hj:=aj hx
     rw[c3 j (by omega)]at hx
     simp only[Nat.zero_add,aLn,aLb]at hx
     obtain⟨t,ht,rfl⟩:=hx
     exact⟨cv j,hH.agree _ _ _ (hF j t ht).1,(hF j t ht).2,.t _ _ (hr j t ht)⟩
 · cases h
theorem aeQ(hH:az F g H w){v:Value}{p:D}(hp:bF F g (shp H) v p){n:Nat}{agg:Bool}{d:D}(h:Ak H p n agg=some d){t:TypeId}
 (hs:vd P t=some n) (ha:Kc P t=some agg):∃u,(Instr.loadAt t v).run P w= .ok u w∧bF F g (shp H) u d:=by
 obtain⟨b,o,vs,cs,rfl,hl,hc,hd,hcell⟩:=Db hH hp h
 subst hl
 refine⟨_,?_,yb hc hd⟩
 have:=Da (P:=P) (w:=w) (a:=⟨b,o,none⟩) hs ha (fun h0=>by rw[hc.1];exact yc hd h0) (fun j u hu=>by rw[iH];exact hcell j u hu)
 simpa [Instr.loadAt,Instr.sureAddr]using this
theorem VM{v:Value}{p d:D}(hp:bF F g (shp H) v p){off:Nat}(h:Nz p off=some d):∃a,v= .pointer (some a)∧bF F g (shp H) (.pointer (some (a.add off))) d:=by
 unfold Nz at h
 split at h
 · cases h
   cases hp with | bp _ _ b c hg hs=>exact⟨_,rfl,by rw[iH];exact .bp _ _ b c hg hs⟩
 · cases h
   cases hp with
   | ap _ _ _ _ _ sz b c hg hs=>exact⟨_,rfl,by rw[iH,Nat.add_assoc];exact .ap _ _ _ _ _ sz b c hg hs⟩
   | apOld a _ _ _ _ _ sz ep' n' hs hpast=>exact⟨_,rfl,.apOld _ _ _ _ _ _ sz ep' n' hs hpast⟩
 · cases h
   cases hp with
   | ep cs b o cv hF hr=>
     refine⟨_,rfl,?_⟩
     rw[iH]
     refine .ep _ b (o+off) (fun k=>cv (off+k)) (fun k c hc=>?_) (fun k c hc=>?_)
     · rw[List.getElem?_drop]at hc
       rw[Nat.add_assoc];exact hF _ c hc
     · rw[List.getElem?_drop]at hc
       exact hr _ c hc
 · cases h
theorem IH{v:Value}{d:D}{n:Int}(h:bF F g (shp H) v d)(hn:intOf d=some n):∃k,v= .int k n:=by
 unfold intOf at hn
 split at hn
 · cases hn
   cases h with | t _ _ h=>cases h;exact⟨_,rfl⟩
 · cases hn
theorem oe{n:Int}{j:Nat}(h:idx n=some j):n=j:=by
 unfold idx at h
 split at h
 · cases h;omega
 · cases h
theorem apn{v:Value}{es:List T}(hx:lP F v (.sl es)){n:Int}{k:IntKind}{sz j:Nat}(hn:n=j){y:T}(hy:es[j]?=some y)(hsz:y.cells.length=sz){t e:TypeId}(ht:P.underlying t=some (.slice e))
 (hs:vd P e=some sz):∃u,(Instr.indexAt t v (.int k n)).run P w= .ok u w∧bF F g (shp H) u (.ep y.cells):=by
 have run:∀ {b off len cap j:Nat},v= .slice (some ⟨b,off,none⟩) len cap→n=j→j<len→(Instr.indexAt t v (.int k n)).run P w= .ok (.pointer (some ⟨b,off+j*sz,none⟩)) w:=by
  intro b off len cap j hv hn hj
  subst hv;subst hn
  simp[Instr.indexAt,asIntOf,run_underlying ht,hj,run_sizeOf hs,iH]
 cases hx with
 | sl0=>simp at hy
 | sl b off cap sz' es cv hcap hz hF hr=>
   have e1:=hz y (aLd hy)
   rw[hsz]at e1;subst e1
   refine⟨_,run rfl hn (aj hy),.ep _ b _ (cv j) (fun q c hc=>?_) (fun q c hc=>hr j y q c hy hc)⟩
   exact hF j y q c hy hc
theorem aeR(hH:az F g H w){v:Value}{x d:D}(hx:bF F g (shp H) v x){n:Int}{k:IntKind}{sz:Nat}(h:GK H x n sz=some d){t e:TypeId}(ht:P.underlying t=some (.slice e))
 (hs:vd P e=some sz):∃u,(Instr.indexAt t v (.int k n)).run P w= .ok u w∧bF F g (shp H) u d:=by
 have run:∀ {b off len cap j:Nat},v= .slice (some ⟨b,off,none⟩) len cap→n=j→j<len→(Instr.indexAt t v (.int k n)).run P w= .ok (.pointer (some ⟨b,off+j*sz,none⟩)) w:=by
  intro b off len cap j hv hn hj
  subst hv;subst hn
  simp[Instr.indexAt,asIntOf,run_underlying ht,hj,run_sizeOf hs,iH]
 unfold GK at h
 split at h
 · rename_i es
   obtain⟨j,hj,h⟩:=aLa.1 h
   obtain⟨y,hy,h⟩:=aLa.1 h
   have hn:=oe hj
   split at h
   · rename_i hsz
     cases h
     cases hx with | t _ _ hx=>
     cases hx with
     | sl0=>simp at hy
     | sl b off cap sz' es cv hcap hz hF hr=>
       have e1:=hz y (aLd hy)
       rw[hsz]at e1;subst e1
       refine⟨_,run rfl hn (aj hy),.ep _ b _ (cv j) (fun q c hc=>?_) (fun q c hc=>hr j y q c hy hc)⟩
       exact hF j y q c hy hc
   · cases h
 · rename_i id ep m
   obtain⟨j,hj,h⟩:=aLa.1 h
   obtain⟨a,ha,h⟩:=aLa.1 h
   have hn:=oe hj
   obtain⟨hid,hm⟩:=eK ha
   split at h
   · rename_i hc
     obtain⟨hjm,hsz⟩:=hc
     cases h
     obtain⟨og,hog,hbn,rfl⟩:=hx.vv hid hm
     have hf:=(hH.fits id _ og hid hog).old hbn
     rcases hf with⟨h1,h2⟩ | ⟨b,c,ty,hb,hc,hsz',hle,hz,hcell,_⟩
     · rw[h2]at hm;simp at hm;omega
     · have hv:dE og m= .slice (some ⟨b,0,none⟩) m og.cap:=by simp[dE,hb]
       refine⟨_,run hv hn hjm,?_⟩
       have:=bF.ap (F:=F) (g:=g) (S:=shp H) id ep m j 0 a.1 b og.cap (by rw[hog];cases og;simp at hb;subst hb;rfl) (by rw[mm hid];simp[Obj.sh,hm])
       rw[← hsz]
       simpa using this
   · cases h
 · rename_i id ep m lo hi
   obtain⟨j,hj,h⟩:=aLa.1 h
   obtain⟨a,ha,h⟩:=aLa.1 h
   have hn:=oe hj
   obtain⟨hid,hm⟩:=eK ha
   split at h
   · rename_i hc
     obtain⟨hjm,hhi,hsz⟩:=hc
     cases h
     rcases hx.Ao hid hm with⟨b,c,cap',hog,hlt,hle,hcap,rfl⟩ | ⟨he,_⟩
     · refine⟨_,run rfl hn (by omega),?_⟩
       have:=bF.ap (F:=F) (g:=g) (S:=shp H) id ep m (lo+j) 0 a.1 b c hog (by rw[mm hid];simp[Obj.sh,hm])
       rw[← hsz]
       simpa [Nat.add_mul]using this
     · omega
   · cases h
 · rename_i id ep es
   obtain⟨j,hj,h⟩:=aLa.1 h
   obtain⟨y,hy,h⟩:=aLa.1 h
   have hn:=oe hj
   split at h
   · rename_i hc
     obtain⟨ho,hsz⟩:=hc
     cases h
     rcases hx.XA ho with⟨b,off,cap,_,_,_,_,hr,_,rfl⟩ | ⟨rfl,_⟩
     · exact apn hr hn hy hsz ht hs
     · simp at hy
   · cases h
 · cases h
theorem XG{v:Value}{x:D}(hx:bF F g (shp H) v x){n:Nat}(h:aiA x=some n):∃a c,v= .slice a n c:=by
 unfold aiA at h
 split at h
 · cases h
   cases hx with | t _ _ hx=>
   cases hx with
   | sl0 a cap=>exact⟨_,_,rfl⟩
   | sl b off cap sz es cv hcap hz hF hr=>exact⟨_,_,rfl⟩
 · cases h;cases hx;exact⟨_,_,rfl⟩
 · cases h
   cases hx with
   | ref _ _ _ sz og hg hs hn=>exact PI og _ hn
   | refOld a c=>exact⟨a,c,rfl⟩
 · cases h
   cases hx with
   | sub=>exact⟨_,_,rfl⟩
   | sub0 a _ _ _ _ _ cap' sz ep' n' hs he=>exact⟨a,cap',by rw[Nat.sub_eq_zero_of_le he]⟩
   | subOld a c=>exact⟨a,c,rfl⟩
 · cases h
   cases hx with
   | q=>exact⟨_,_,rfl⟩
   | q0 a=>exact⟨a,0,rfl⟩
   | qOld a c=>exact⟨a,c,rfl⟩
 · cases h
theorem II{v:Value}{x d:D}(hx:bF F g (shp H) v x){off n:Nat}{agg:Bool}(h:yM x off n agg=some d){t:TypeId}(hs:vd P t=some n)(ha:Kc P t=some agg):
 ∃cs u,v= .agg cs∧(part t cs off).run P w= .ok u w∧bF F g (shp H) u d:=by
 unfold yM at h
 split at h
 · rename_i hagg
   obtain⟨xs,hxs,hd⟩:=aLa.1 h
   obtain⟨c1,c2,c3⟩:=GS hxs
   have hcells:∃vs:List Value,v= .agg vs.toArray∧ya F g (shp H) vs x.cells:=by
    cases x<;>simp only[D.isAgg]at hagg<;>try contradiction
    case t y=>
     cases y<;>simp only at hagg<;>try contradiction
     rename_i ts
     cases hx with | t _ _ hx=>
     cases hx with
     | agg vs _ hl hv hr=>
       refine⟨vs,rfl,by simp[D.cells,T.cells,hl],hv,fun i u c hu hc=>?_⟩
       obtain⟨t,ht,rfl⟩:=Ar _ hc
       exact .t _ _ (hr i u t hu ht)
    case agg cs=>
     cases hx with
     | agg vs _ hl hv hr=>exact⟨vs,rfl,hl,hv,hr⟩
   obtain⟨vs,rfl,h1,h2,h3⟩:=hcells
   have hC:ya F g (shp H) ((vs.drop off).take n) xs:=by
    refine⟨by simp;omega,fun u hu=>h2 u (List.mem_of_mem_drop (List.mem_of_mem_take hu)),fun i u c hu hc=>?_⟩
    have hi:=aj hc
    rw[c3 i (by omega)]at hc
    rw[aLo,if_pos (by omega),List.getElem?_drop]at hu
    exact h3 _ u c hu hc
   refine⟨_,yQ agg ((vs.drop off).take n),rfl,?_,yb hC hd⟩
   simp only[part,Sem.run_bind,yP ha,Result.andThen_ok,Sem.run_ite]
   cases agg with
   | true=>
     simp only[if_true,Sem.run_bind,run_sizeOf hs,Result.andThen_ok,yQ,Sem.run_pure]
     congr 2
     simp[List.extract_eq_take_drop]
   | false=>
     have hn1:n=1:=by rw[← c1];exact yc hd rfl
     subst hn1
     have hlt:off<vs.length:=by omega
     simp[yQ,aLc hlt,hlt]
 · cases h
end
end Go.Ev
namespace Go.Ev
open Go
variable [Names]
inductive yR:Option Value→Option Int→Prop
 | none:yR none none
 | some (k:IntKind) (n:Int):yR (some (.int k n)) (some n)
section
variable {P : Program} {ρ : Operand → Value} {F : Fz} {g : Gh} {H : af} {w : World}
theorem Dc{len cap l h:Nat}{lo hi:Option Int}{vlo vhi:Option Value}(hlo:yR vlo lo)(hhi:yR vhi hi)(hl:bound 0 lo=some l)(hh:bound len hi=some h)
 (hle:l≤h) (hc:h≤cap):(Instr.sliceBounds true len cap vlo vhi none).run P w= .ok (l,h,cap) w:=by
 have sb:∀(k:IntKind) (n:Int) (m y:Nat) (code:BoundsCode),idx n=some m→m≤y→(Instr.sliceBound (.int k n) y code).run P w= .ok m w:=by
  intro k n m y code hi hm
  have:=oe hi
  subst this
  simp[Instr.sliceBound,asIntOf,hm]
 unfold bound at hl hh
 cases hhi with
 | none=>
   cases hh
   cases hlo with
   | none=>cases hl;simp[Instr.sliceBounds]
   | some k n=>simp[Instr.sliceBounds,sb k n l _ _ hl hle]
 | some k n=>
   have e1:=sb k n h cap .sliceAcap hh hc
   cases hlo with
   | none=>cases hl;simp[Instr.sliceBounds,e1]
   | some k' n'=>simp[Instr.sliceBounds,e1,sb k' n' l _ _ hl hle]
theorem kQ{t e:TypeId}(ht:P.underlying t=some (.slice e)){sz:Nat}(hs:vd P e=some sz){a:Option Addr}{len cap l h:Nat}{lo hi:Option Int}{vlo vhi:Option Value}(hlo:yR vlo lo)
 (hhi:yR vhi hi) (hl:bound 0 lo=some l) (hh:bound len hi=some h) (hle:l≤h) (hc:h≤cap):
 (Instr.sliceAt t (.slice a len cap) vlo vhi none).run P w= .ok (.slice (if cap=l then a else a.map (·.add (l*sz))) (h-l) (cap-l)) w:=by
 simp[Instr.sliceAt,Instr.slice,run_underlying ht,Dc hlo hhi hl hh hle hc,run_sizeOf hs]
theorem TI{v vh vm:Value}{x d:D}(hx:bF F g (shp H) v x){h m:Int}(hh:∃k,vh= .int k h)(hm:∃k,vm= .int k m)(he:Xx x h m=some d)
 {t e:TypeId} (ht:P.underlying t=some (.slice e)) {sz:Nat} (hs:vd P e=some sz):
 ∃u,(Instr.sliceAt t v none (some vh) (some vm)).run P w= .ok u w∧fM u=true∧bF F g (shp H) u d:=by
 obtain⟨k1,rfl⟩:=hh
 obtain⟨k2,rfl⟩:=hm
 have sb:∀(k:IntKind) (n y:Nat) (code:BoundsCode),n≤y→(Instr.sliceBound (.int k (n:Int)) y code).run P w= .ok n w:=by
  intro k n y code hn
  simp[Instr.sliceBound,asIntOf,hn]
 have go:∀(a:Option Addr) (n cap:Nat),n≤cap→(Instr.sliceAt t (.slice a n cap) none (some (.int k1 n)) (some (.int k2 n))).run P w= .ok (.slice a n n) w:=by
  intro a n cap hc
  have e1:=sb k2 n cap .slice3Acap hc
  have e2:=sb k1 n n .slice3B (aLs _)
  have hb:(Instr.sliceBounds true n cap none (some (.int k1 n)) (some (.int k2 n))).run P w= .ok (0,n,n) w:=by simp[Instr.sliceBounds,e1,e2]
  have ha:a.map (fun x:Addr=>x.add (0*sz))=a:=by
   cases a with
   | none=>rfl
   | some ad=>simp[Addr.add]
  simp only[Nat.zero_mul]at ha
  simp[Instr.sliceAt,Instr.slice,run_underlying ht,hb,run_sizeOf hs,ha]
 unfold Xx at he
 split at he
 · rename_i es
   split at he
   · rename_i c
     obtain⟨rfl,rfl⟩:=c
     cases he
     cases hx with | t _ _ hx=>
     cases hx with
     | sl0 a cap=>
       refine⟨_,go a 0 cap (Nat.zero_le _),rfl,?_⟩
       exact .cl a [] (.sl0 _ _)
     | sl b off cap sz' es' cv hcap hz' hF hr=>
       refine⟨_,go _ es.length cap hcap,rfl,?_⟩
       exact .cl _ es (.sl b off es.length sz' es cv (aLs _) hz' hF hr)
   · cases he
 · split at he
   · rename_i c
     obtain⟨rfl,rfl⟩:=c
     cases he;cases hx
     exact⟨_,go none 0 0 (aLs _),rfl,.nil⟩
   · cases he
 · cases he
theorem lP.ak4{v:Value}{es:List T}(hr:lP F v (.sl es)){b off cap:Nat}(hv:v= .slice (some ⟨b,off,none⟩) es.length cap)(hz:∀e∈es,e.cells.length=1){l:Nat}(hl:l≤es.length)(hc:es.length≤cap):
 lP F (.slice (some ⟨b,off+l,none⟩) (es.length-l) (cap-l)) (.sl (es.drop l)):=by
 cases hr with
 | sl0=>simp;exact .sl0 _ _
 | sl b' off' cap' sz' _ cv hcap hz' hF hr=>
   simp only[Value.slice.injEq,Option.some.injEq,Addr.mk.injEq,and_true,true_and]at hv
   obtain⟨⟨rfl,rfl⟩,rfl⟩:=hv
   have hlen:(es.drop l).length=es.length-l:=by simp
   by_cases e0:es.length=l
   · rw[List.drop_of_length_le (Nat.le_of_eq e0),e0,Nat.sub_self]
     exact .sl0 _ _
   · have hsz:sz'=1:=by
      have hlt:l<es.length:=by omega
      rw[← hz' es[l] (List.getElem_mem hlt),hz es[l] (List.getElem_mem hlt)]
     subst hsz
     have:=lP.sl (F:=F) b' (off'+l) (cap'-l) 1 (es.drop l) (fun i k=>cv (l+i) k) (by rw[hlen];omega)
      (fun y hy=>hz y (List.mem_of_mem_drop hy))
      (fun i y k c hy hc=>by
       rw[List.getElem?_drop]at hy
       have:=hF (l+i) y k c hy hc
       simpa [Nat.add_assoc]using this)
      (fun i y k c hy hc=>by
       rw[List.getElem?_drop]at hy
       exact hr (l+i) y k c hy hc)
     rw[hlen]at this
     exact this
theorem aeS(hH:az F g H w){v:Value}{x d:D}(hx:bF F g (shp H) v x){lo hi:Option Int}{vlo vhi:Option Value}(hlo:yR vlo lo)(hhi:yR vhi hi){sz:Nat}
 (h:rB H x lo hi sz=some d) {t e:TypeId} (ht:P.underlying t=some (.slice e)) (hs:vd P e=some sz):
 ∃u,(Instr.sliceAt t v vlo vhi none).run P w= .ok u w∧bF F g (shp H) u d:=by
 unfold rB at h
 replace h:=aLa.1 h
 obtain⟨l,hl,h⟩:=h
 split at h
 · rename_i es
   obtain⟨hh,hhh,h⟩:=aLa.1 h
   split at h
   · rename_i hc
     obtain⟨c1,c2,c3⟩:=hc
     cases h
     cases hx with | t _ _ hx=>
     have hz:∀y∈es,y.cells.length=sz:=fun y hy=>by simpa using aLx.1 c3 y hy
     cases hx with
     | sl0 a cap=>
       have e0:hh=0:=by simpa using c2
       subst e0
       have e1:l=0:=by omega
       subst e1
       refine⟨_,kQ ht hs hlo hhi hl hhh (aLs _) (Nat.zero_le _),.t _ _ ?_⟩
       simp only[List.drop_nil,List.take_nil,Nat.sub_self]
       exact .sl0 _ _
     | sl b off cap sz' es' cv hcap hz' hF hr=>
       refine⟨_,kQ ht hs hlo hhi hl hhh c1 (by omega),.t _ _ ?_⟩
       by_cases he:hh=l
       · subst he
         simp only[Nat.sub_self,List.take_zero]
         exact .sl0 _ _
       · have hne:¬cap=l:=by omega
         have hlen:((es.drop l).take (hh-l)).length=hh-l:=by simp;omega
         simp only[hne,if_false,aLw,iH]
         have hsz:sz'=sz:=by
          have hlt:l<es.length:=by omega
          rw[← hz' es[l] (List.getElem_mem hlt),hz es[l] (List.getElem_mem hlt)]
         subst hsz
         have:=lP.sl (F:=F) b (off+l*sz') (cap-l) sz' ((es.drop l).take (hh-l)) (fun i k=>cv (l+i) k) (by rw[hlen];omega)
          (fun y hy=>hz y (List.mem_of_mem_drop (List.mem_of_mem_take hy)))
          (fun i y k c hy hc=>by
           have hi:=aj hy
           rw[aLo,if_pos (by omega),List.getElem?_drop]at hy
           have:=hF (l+i) y k c hy hc
           rw[Nat.add_mul]at this
           simpa [Nat.add_assoc]using this)
          (fun i y k c hy hc=>by
           have hi:=aj hy
           rw[aLo,if_pos (by omega),List.getElem?_drop]at hy
           exact hr (l+i) y k c hy hc)
         rw[hlen]at this
         exact this
   · cases h
 · obtain⟨hh,hhh,h⟩:=aLa.1 h
   split at h
   · rename_i hc
     cases h;cases hx
     have e0:hh=0:=by omega
     subst e0
     have e1:l=0:=by omega
     subst e1
     exact⟨_,kQ ht hs hlo hhi hl hhh (aLs _) (aLs _),.nil⟩
   · cases h
 · rename_i id ep n
   obtain⟨hh,hhh,h⟩:=aLa.1 h
   obtain⟨a,ha,h⟩:=aLa.1 h
   obtain⟨hid,hm⟩:=eK ha
   split at h
   · rename_i hc
     obtain⟨c1,c2,c3⟩:=hc
     cases h
     obtain⟨og,hog,hbn,rfl⟩:=hx.vv hid hm
     have hS:shp H id=some (.arr a.1 ep n):=by rw[mm hid];simp[Obj.sh,hm]
     rcases (hH.fits id _ og hid hog).old hbn with⟨h1,h2⟩ | ⟨b,c,ty,hb,hc',hsz',hle,_⟩
     · rw[h2]at hm;simp at hm;subst hm
       have e0:hh=0:=by omega
       subst e0
       have e1:l=0:=by omega
       subst e1
       have hv:dE og 0= .slice none 0 0:=by simp[dE,h1]
       rw[hv]
       refine⟨_,kQ ht hs hlo hhi hl hhh (aLs _) (aLs _),?_⟩
       exact .sub0 _ id ep 0 0 0 _ a.1 ep 0 hS (aLs _)
     · have hv:dE og n= .slice (some ⟨b,0,none⟩) n og.cap:=by simp[dE,hb]
       rw[hv]
       refine⟨_,kQ ht hs hlo hhi hl hhh c1 (by omega),?_⟩
       by_cases he:hh=l
       · subst he
         simp only[Nat.sub_self]
         exact .sub0 _ id ep n hh hh _ a.1 ep n hS (aLs _)
       · have hne:¬og.cap=l:=by omega
         simp only[hne,if_false,aLw,iH,Nat.zero_add]
         subst c3
         exact .sub id ep n l hh a.1 b og.cap (og.cap-l) (l*a.1) (by rw[hog];cases og;simp at hb;subst hb;rfl) hS (by omega) c2 rfl (by omega)
   · cases h
 · rename_i id ep n l0 h0
   obtain⟨hh,hhh,h⟩:=aLa.1 h
   obtain⟨a,ha,h⟩:=aLa.1 h
   obtain⟨hid,hm⟩:=eK ha
   split at h
   · rename_i hc
     obtain⟨c1,c2,c3,c4⟩:=hc
     cases h
     have hS:shp H id=some (.arr a.1 ep n):=by rw[mm hid];simp[Obj.sh,hm]
     rcases hx.Ao hid hm with⟨b,c,cap',hog,hlt,hle,hcap,rfl⟩ | ⟨he,a',cap',rfl⟩
     · refine⟨_,kQ ht hs hlo hhi hl hhh c1 (by omega),?_⟩
       by_cases he:hh=l
       · subst he
         simp only[Nat.sub_self]
         exact .sub0 _ id ep n _ _ _ a.1 ep n hS (aLs _)
       · have hne:¬cap'=l:=by omega
         simp only[hne,if_false,aLw,iH]
         subst c4
         have:=bF.sub (F:=F) (g:=g) (S:=shp H) id ep n (l0+l) (l0+hh) a.1 b c (cap'-l) (l0*a.1+l*a.1) hog hS (by omega) (by omega) (by rw[Nat.add_mul]) (by omega)
         rw[show l0+hh-(l0+l)=hh-l by omega]at this
         exact this
     · have e0:hh=0:=by omega
       subst e0
       have e1:l=0:=by omega
       subst e1
       have hhh':bound 0 hi=some 0:=by
        rw[show h0-l0=0 by omega]at hhh;exact hhh
       refine⟨_,kQ ht hs hlo hhi hl hhh' (aLs _) (Nat.zero_le _),?_⟩
       simp only[Nat.sub_self]
       exact .sub0 _ id ep n _ _ _ a.1 ep n hS (aLs _)
   · cases h
 · rename_i id ep es
   obtain⟨hh,hhh,h⟩:=aLa.1 h
   split at h
   · rename_i hc
     obtain⟨ho,c1,c2,c3⟩:=hc
     cases h
     subst c2 c3
     rcases hx.XA ho with⟨b,off,cap,hg,hid,hb,hle,hr,hz,rfl⟩ | ⟨rfl,a,rfl⟩
     · refine⟨_,kQ ht hs hlo hhi hl hhh c1 hle,?_⟩
       have hS:shp H id=some (.own ep):=by rw[mm hid];rfl
       by_cases he:cap=l
       · have e1:es.length=l:=by omega
         simp only[he,if_true,e1,Nat.sub_self,List.drop_of_length_le (Nat.le_of_eq e1)]
         exact .q0 _ id ep hS
       · have hlen:(es.drop l).length=es.length-l:=by simp
         simp only[he,if_false,aLw,iH,Nat.mul_one]
         have:=bF.q (F:=F) (g:=g) (S:=shp H) id ep b (off+l) (cap-l) (es.drop l) (by rw[hlen,show off+l+(es.length-l)=off+es.length by omega,show off+l+(cap-l)=off+cap by omega];exact hg) hS (by omega) (by omega)
          (by rw[hlen];exact hr.ak4 rfl hz c1 hle)
          (fun y hy=>hz y (List.mem_of_mem_drop hy))
         rw[hlen]at this
         exact this
     · have e1:l=0:=by simpa using c1
       subst e1
       refine⟨_,kQ ht hs hlo hhi hl hhh (aLs _) (Nat.zero_le _),?_⟩
       have hS:shp H id=some (.own ep):=by rw[mm (An ho)];rfl
       simp only[List.length_nil,Nat.sub_self,List.drop_nil,if_true]
       exact .q0 _ id ep hS
   · cases h
 · cases h
theorem aeT{v:Value}{x d:D}(hx:bF F g (shp H) v x){i:Nat}(h:aeN i x=some d):∃u,(Instr.extract v i).run P w= .ok u w∧bF F g (shp H) u d:=by
 unfold aeN at h
 split at h
 · cases hx with
   | tup vs ds hl hr=>
     obtain⟨u,hu⟩:=ah hl.symm h
     exact⟨u,by simp[Instr.extract,hu],hr i u d hu h⟩
 · cases h
theorem Dd{f:Int→Int→Int}{op:Value→Value→Sem Value}(hop:∀(k:IntKind) (a b:Int),op (.int k a) (.int k b)=pure (.int k (f a b))):
 ∀ {ds:List D} {vs:List Value} {d r:D} {v:Value},bF F g (shp H) v d→qa F g (shp H) vs ds→ET f d ds=some r→
 ∃u,(vs.foldlM op v).run P w= .ok u w∧bF F g (shp H) u r
 | [],vs,d,r,v,hd,hl,h=>by
   have:vs=[]:=List.length_eq_zero_iff.1 hl.1
   subst this
   unfold ET at h
   split at h
   · rename_i heq;cases heq
   · cases h;exact⟨v,by simp,hd⟩
   · cases h
 | e::ds,[],d,r,v,hd,hl,h=>by have:=hl.1;simp at this
 | e::ds,u::vs,d,r,v,hd,hl,h=>by
   unfold ET at h
   split at h
   · rename_i k a j b r' heq
     cases heq
     split at h
     · rename_i hjk
       subst hjk
       have h0:=hl.2 0 u _ rfl rfl
       cases hd with | t _ _ hd=>
       cases h0 with | t _ _ h0=>
       cases hd;cases h0
       have hl':qa F g (shp H) vs ds:=⟨by have:=hl.1;simpa using this,fun i v d hv hd=>hl.2 (i+1) v d (by simpa using hv) (by simpa using hd)⟩
       obtain⟨q,hq,hr⟩:=Dd hop (.t _ _ (.int _ (f a b))) hl' h
       refine⟨q,?_,hr⟩
       simp only[List.foldlM_cons,Sem.run_bind,hop,Sem.run_pure,Result.andThen_ok,hq]
     · cases h
   · rename_i heq;cases heq
   · cases h
theorem aeU{ds:List D}{vs:List Value}{r:D}(hl:qa F g (shp H) vs ds)(h:aeL ds=some r)(ts:Array TypeId)(ty:TypeId):
 ∃u,(Builtin.min_ ts ty vs.toArray).run P w= .ok u w∧bF F g (shp H) u r:=by
 cases ds with
 | nil=>cases h
 | cons d ds=>
   cases vs with
   | nil=>have:=hl.1;simp at this
   | cons v vs=>
     have hl':qa F g (shp H) vs ds:=⟨by have:=hl.1;simpa using this,fun i v d hv hd=>hl.2 (i+1) v d (by simpa using hv) (by simpa using hd)⟩
     obtain⟨q,hq,hr⟩:=Dd (op:=Builtin.min2) (fun k a b=>rfl) (hl.2 0 v d rfl rfl) hl' h
     exact⟨q,by simpa [Builtin.min_]using hq,hr⟩
theorem aeV{ds:List D}{vs:List Value}{r:D}(hl:qa F g (shp H) vs ds)(h:aeM ds=some r)(ts:Array TypeId)(ty:TypeId):
 ∃u,(Builtin.max_ ts ty vs.toArray).run P w= .ok u w∧bF F g (shp H) u r:=by
 cases ds with
 | nil=>cases h
 | cons d ds=>
   cases vs with
   | nil=>have:=hl.1;simp at this
   | cons v vs=>
     have hl':qa F g (shp H) vs ds:=⟨by have:=hl.1;simpa using this,fun i v d hv hd=>hl.2 (i+1) v d (by simpa using hv) (by simpa using hd)⟩
     obtain⟨q,hq,hr⟩:=Dd (op:=Builtin.max2) (fun k a b=>rfl) (hl.2 0 v d rfl rfl) hl' h
     exact⟨q,by simpa [Builtin.max_]using hq,hr⟩
end
end Go.Ev
namespace Go.Ev
open Go
variable [Names]
section
variable {P : Program} {ρ : Operand → Value} {F : Fz} {g : Gh} {H : af} {w : World}
theorem gO{S:Nat→Option Sh}{v:Value}{d:D}(h:bF F g S v d)(hs:d.lO=true):ya F g S v.cells.toList d.cells:=by
 have one:∀ {v:Value} {d:D},bF F g S v d→v.cells= #[v]→d.cells=[d]→fM v=true→ya F g S v.cells.toList d.cells:=by
  intro v d h h1 h2 h3
  rw[h1,h2]
  refine⟨rfl,by simp[h3],fun i u c hu hc=>?_⟩
  cases i with
  | zero=>simp at hu hc;subst hu;subst hc;exact h
  | succ i=>simp at hu
 cases h with
 | t v x hx=>
   cases hx with
   | agg vs cs hl hv hr=>
     refine⟨by simp[Value.cells,D.cells,T.cells,hl],by simpa [Value.cells]using hv,fun i u c hu hc=>?_⟩
     obtain⟨t,ht,rfl⟩:=Ar _ hc
     exact .t _ _ (hr i u t (by simpa [Value.cells]using hu) ht)
   | int k n=>exact one (.t _ _ (.int k n)) rfl rfl rfl
   | bool b=>exact one (.t _ _ (.bool b)) rfl rfl rfl
   | str s=>exact one (.t _ _ (.str s)) rfl rfl rfl
   | sl0 a c=>exact one (.t _ _ (.sl0 a c)) rfl rfl rfl
   | sl b off cap sz es cv hcap hz hF hr=>exact one (.t _ _ (.sl b off cap sz es cv hcap hz hF hr)) rfl rfl rfl
 | nil=>exact one .nil rfl rfl rfl
 | agg vs cs hl hv hr=>exact⟨by simp[Value.cells,D.cells,hl],by simpa [Value.cells]using hv,fun i u c hu hc=>hr i u c (by simpa [Value.cells]using hu) hc⟩
 | bp id off b c hg h=>exact one (.bp id off b c hg h) rfl rfl rfl
 | ap id ep n i off sz b c hg h=>exact one (.ap id ep n i off sz b c hg h) rfl rfl rfl
 | apOld a id ep n i off sz ep' n' h hp=>exact one (.apOld a id ep n i off sz ep' n' h hp) rfl rfl rfl
 | ep cs b off cv hF hr=>exact one (.ep cs b off cv hF hr) rfl rfl rfl
 | ref id ep n sz og hg h hn=>
   have e:=Iy og n
   refine one (.ref id ep n sz og hg h hn) ?_ rfl e
   unfold dE;split<;>rfl
 | refOld a c id ep n sz ep' n' h hp hn=>exact one (.refOld a c id ep n sz ep' n' h hp hn) rfl rfl rfl
 | sub id ep n lo hi sz b c cap' a hg h h1 h2 h3 h4=>exact one (.sub id ep n lo hi sz b c cap' a hg h h1 h2 h3 h4) rfl rfl rfl
 | sub0 a id ep n lo hi cap' sz ep' n' h he=>exact one (.sub0 a id ep n lo hi cap' sz ep' n' h he) rfl rfl rfl
 | subOld a c id ep n lo hi sz ep' n' h hp=>exact one (.subOld a c id ep n lo hi sz ep' n' h hp) rfl rfl rfl
 | fn f j hj vs cs hl hr=>exact one (.fn f j hj vs cs hl hr) rfl rfl rfl
 | tup vs cs hl hr=>cases hs
 | nilp=>exact one .nilp rfl rfl rfl
 | und v=>cases hs
 | ub b=>cases hs
 | cl a es h=>exact one (.cl a es h) rfl rfl rfl
 | q id ep b off cap es hg h0 hb hl h hz=>exact one (.q id ep b off cap es hg h0 hb hl h hz) rfl rfl rfl
 | q0 a id ep h0=>exact one (.q0 a id ep h0) rfl rfl rfl
 | qOld a c id ep es ep' h0 hp=>exact one (.qOld a c id ep es ep' h0 hp) rfl rfl rfl
theorem De(off:Nat):∀(vs:List Value) (k:Nat) (c:Array Value),off+k+vs.length≤c.size→
 let r:=(vs.zipIdx k).foldl (fun cs (x:Value×Nat)=>cs.setIfInBounds (off+x.2) x.1) c
 r.size=c.size∧∀(i:Nat),r[i]?=if off+k≤i∧i<off+k+vs.length then vs[i-(off+k)]? else c[i]?
 | [],k,c,h=>by
   refine⟨rfl,fun i=>?_⟩
   have:¬(off+k≤i∧i<off+k+0):=by omega
   simp only[List.zipIdx_nil,List.foldl_nil,List.length_nil,this,if_false]
 | v::vs,k,c,h=>by
   simp only[List.length_cons]at h
   obtain⟨h1,h2⟩:=De off vs (k+1) (c.setIfInBounds (off+k) v) (by simp;omega)
   refine⟨by simpa using h1,fun i=>?_⟩
   simp only[List.zipIdx_cons,List.foldl_cons]
   rw[h2 i]
   by_cases c1:off+(k+1)≤i∧i<off+(k+1)+vs.length
   · have c2:off+k≤i∧i<off+k+(v::vs).length:=by simp;omega
     rw[if_pos c1,if_pos c2,show i-(off+k)=(i-(off+(k+1)))+1 by omega]
     simp
   · rw[if_neg c1,Array.getElem?_setIfInBounds]
     by_cases c3:off+k=i
     · subst c3
       have:off+k≤off+k∧off+k<off+k+(v::vs).length:=by simp
       rw[if_pos this]
       have:off+k<c.size:=by omega
       simp[this]
     · have:¬(off+k≤i∧i<off+k+(v::vs).length):=by simp;omega
       rw[if_neg this,if_neg c3]
theorem IJ(off:Nat)(v:Value)(c:Array Value)(h:off+v.cells.size≤c.size):
 let r:=v.cells.zipIdx.foldl (fun cs (x:Value×Nat)=>cs.setIfInBounds (off+x.2) x.1) c
 r.size=c.size∧∀(i:Nat),r[i]?=if off≤i∧i<off+v.cells.size then v.cells[i-off]? else c[i]?:=by
 have:=De off v.cells.toList 0 c (by simpa using h)
 simp only[Nat.add_zero,Array.length_toList,Array.getElem?_toList]at this
 rw[← Array.foldl_toList,Array.toList_zipIdx]
 exact this
theorem ez{α:Type}{cs xs cs':List α}{off:Nat}(h:bq cs off xs=some cs'):off+xs.length≤cs.length∧cs'.length=cs.length∧
 ∀(i:Nat),cs'[i]?=if off≤i∧i<off+xs.length then xs[i-off]? else cs[i]?:=by
 unfold bq at h
 split at h
 · rename_i hle
   cases h
   refine⟨hle,by simp;omega,fun i=>?_⟩
   by_cases c1:i<off
   · rw[aLg (by simp;omega),aLg (by simp;omega),aLo,if_pos c1,if_neg (by omega)]
   · by_cases c2:i<off+xs.length
     · rw[aLg (by simp;omega),aLh (by simp;omega),if_pos (by omega)]
       congr 1;simp;omega
     · rw[aLh (by simp;omega),List.getElem?_drop,if_neg (by omega)]
       congr 1;simp;omega
 · cases h
theorem IK{S:Nat→Option Sh}{c r:Array Value}{cs cs' ds:List D}{vs:Array Value}{off:Nat}(hc:ya F g S c.toList cs)(hd:ya F g S vs.toList ds)
 (hf:bq cs off ds=some cs') (hs:r.size=c.size) (hr:∀(i:Nat),r[i]?=if off≤i∧i<off+vs.size then vs[i-off]? else c[i]?):ya F g S r.toList cs':=by
 obtain⟨h1,h2,h3⟩:=ez hf
 have hvs:vs.size=ds.length:=by simpa using hd.1
 have hcs:c.size=cs.length:=by simpa using hc.1
 have key:∀(i:Nat) u,r[i]?=some u→fM u=true∧∀d,cs'[i]?=some d→bF F g S u d:=by
  intro i u hu
  rw[hr i]at hu
  by_cases hcnd:off≤i∧i<off+vs.size
  · rw[if_pos hcnd]at hu
    refine⟨hd.2.1 u (aLd (by simpa using hu)),fun d hd'=>?_⟩
    rw[h3 i,if_pos (by omega)]at hd'
    exact hd.2.2 _ u d (by simpa using hu) hd'
  · rw[if_neg hcnd]at hu
    refine⟨hc.2.1 u (aLd (by simpa using hu)),fun d hd'=>?_⟩
    rw[h3 i,if_neg (by omega)]at hd'
    exact hc.2.2 i u d (by simpa using hu) hd'
 refine⟨by simp;omega,fun u hu=>?_,fun i u d hu hd'=>(key i u (by simpa using hu)).2 d hd'⟩
 obtain⟨i,hi⟩:=aLf.1 hu
 exact(key i u (by simpa using hi)).1
def yS(F:Fz)(g:Gh)(S:Nat→Option Sh)(place:Nat→Option (Nat×Nat)):List (Nat×Value)→List (Nat×Nat×D)→Prop
 | [],[]=>True
 | (i,v)::ps,(off,n,d)::ds=>place i=some (off,n)∧bF F g S v d∧yS F g S place ps ds
 | _,_=>False
theorem GU{S:Nat→Option Sh}{place:Nat→Option (Nat×Nat)}:∀ {ps:List (Nat×Value)} {ds:List (Nat×Nat×D)} {c:Array Value} {cs cs':List D},
 yS F g S place ps ds→ya F g S c.toList cs→yK cs ds=some cs'→∃r,Instr.fill place c ps=some r∧ya F g S r.toList cs'
 | [],[],c,cs,cs',_,hc,h=>by cases h;exact⟨c,rfl,hc⟩
 | [],_::_,_,_,_,hp,_,_=>hp.elim
 | _::_,[],_,_,_,hp,_,_=>hp.elim
 | (i,v)::ps,(off,n,d)::ds,c,cs,cs',hp,hc,h=>by
   obtain⟨h1,h2,h3⟩:=hp
   simp only[yK]at h
   split at h
   · rename_i hcnd
     simp only[aLr,beq_iff_eq]at hcnd
     obtain⟨hsol,hlen⟩:=hcnd
     obtain⟨z,hz,h⟩:=aLa.1 h
     have hv:=gO h2 hsol
     have hvn:v.cells.size=n:=by rw[← hlen];simpa using hv.1
     obtain⟨f1,f2,f3⟩:=ez hz
     have hcs:c.size=cs.length:=by simpa using hc.1
     have hfit:off+v.cells.size≤c.size:=by omega
     obtain⟨s1,s2⟩:=IJ off v c hfit
     obtain⟨r,hr,hr'⟩:=GU h3 (IK hc hv hz s1 s2) h
     refine⟨r,?_,hr'⟩
     simp only[Instr.fill,h1]
     have:¬(v.cells.size≠n||off+v.cells.size>c.size)=true:=by simp;omega
     simp only[this,if_false,aLt]
     exact hr
   · cases h
theorem yT{α β:Type}(f:α→Sem β)(gf:α→Option β):∀(l:List α) (m:List β),cK gf l=some m→(∀a b,a∈l→gf a=some b→(f a).run P w= .ok b w)→
 (l.mapM f).run P w= .ok m w
 | [],m,h,_=>by cases h;simp
 | a::l,m,h,hf=>by
   simp only[cK,aLa,aLb]at h
   obtain⟨b,hb,r,hr,rfl⟩:=h
   have h1:=hf a b (by simp) hb
   have h2:=yT f gf l r hr (fun x y hx=>hf x y (by simp[hx]))
   simp only[List.mapM_cons,Sem.run_bind,h1,Result.andThen_ok,h2,Sem.run_pure]
def placeOf(P:Program)(f:Field):Option (Nat×Nat):=(vd P f.type).map fun n=>(f.offset,n)
theorem run_places{fs:Array Field}{pl:List (Nat×Nat)}(h:cK (placeOf P) fs.toList=some pl):
 (fs.mapM fun f=>do pure (f.offset,←sizeOf f.type):Sem (Array (Nat×Nat))).run P w= .ok pl.toArray w:=by
 rw[Array.mapM_eq_mapM_toList]
 have:=yT (P:=P) (w:=w) (fun f:Field=>(do pure (f.offset,←sizeOf f.type):Sem (Nat×Nat))) (placeOf P) fs.toList pl h (fun a b _ hb=>by
  unfold placeOf at hb
  obtain⟨n,hn,rfl⟩:=aLb.1 hb
  simp[run_sizeOf hn])
 simp only[Sem.run_map,this,Result.andThen_ok]
theorem aeW{t:TypeId}{fs:Array Field}(ht:P.underlying t=some (.struct fs)){pl:List (Nat×Nat)}(hpl:cK (placeOf P) fs.toList=some pl){z:Value}
 (hz:(zeroValue t).run P w= .ok z w) {zero:List D} (hzr:ya F g (shp H) z.cells.toList zero) {ps:Array (Nat×Value)} {ds:List (Nat×Nat×D)}
 (hps:yS F g (shp H) (fun i:Nat=>pl[i]?) ps.toList ds) {cs:List D} (h:yK zero ds=some cs):
 ∃u,(Instr.build t ps).run P w= .ok u w∧bF F g (shp H) u (xa cs):=by
 obtain⟨r,hr,hr'⟩:=GU hps hzr h
 refine⟨.agg r,?_,by simpa using C9 hr'⟩
 have hpl':(fun i:Nat=>(pl.toArray)[i]?)=fun i:Nat=>pl[i]?:=by funext i;simp
 simp only[Instr.build,Sem.run_bind,hz,Result.andThen_ok,run_underlying ht,run_places hpl,hpl',hr,Sem.run_pure]
theorem XH{t e:TypeId}{n sz:Nat}(ht:P.underlying t=some (.array n e))(hs:vd P e=some sz){z:Value}
 (hz:(zeroValue t).run P w= .ok z w) {zero:List D} (hzr:ya F g (shp H) z.cells.toList zero) {ps:Array (Nat×Value)} {ds:List (Nat×Nat×D)}
 (hps:yS F g (shp H) (fun i=>some (i*sz,sz)) ps.toList ds) {cs:List D} (h:yK zero ds=some cs):
 ∃u,(Instr.build t ps).run P w= .ok u w∧bF F g (shp H) u (xa cs):=by
 obtain⟨r,hr,hr'⟩:=GU hps hzr h
 refine⟨.agg r,?_,by simpa using C9 hr'⟩
 simp only[Instr.build,Sem.run_bind,hz,Result.andThen_ok,run_underlying ht,run_sizeOf hs,hr,Sem.run_pure]
def GV:Nat→List Value→List (Nat×Value)
 | _,[]=>[]
 | m,v::vs=>(m,v)::GV (m+1) vs
theorem L7(sz:Nat):∀(vs:List Value) (m:Nat) (c:Array Value),(∀v∈vs,v.cells.size=sz)→(m+vs.length)*sz≤c.size→
 ∃r,Instr.fill (fun i=>some (i*sz,sz)) c (GV m vs)=some r∧r.size=c.size∧(∀q,q<m*sz→r[q]?=c[q]?)∧
  ∀(i:Nat) v (k:Nat) u,vs[i]?=some v→v.cells[k]?=some u→r[(m+i)*sz+k]?=some u
 | [],m,c,_,_=>⟨c,rfl,rfl,fun _ _=>rfl,fun i v k u hv=>by simp at hv⟩
 | v::vs,m,c,hz,hl=>by
   have hv:=hz v (by simp)
   have e1:(m+(v::vs).length)*sz=m*sz+sz+vs.length*sz:=by simp[Nat.add_mul];omega
   rw[e1]at hl
   obtain⟨s1,s2⟩:=IJ (m*sz) v c (by rw[hv];omega)
   generalize hc1:v.cells.zipIdx.foldl (fun cs (x:Value×Nat)=>cs.setIfInBounds (m*sz+x.2) x.1) c=c1 at s1 s2
   obtain⟨r,h1,h2,h3,h4⟩:=L7 sz vs (m+1) c1 (fun x hx=>hz x (by simp[hx])) (by rw[s1];simp only[Nat.add_mul];omega)
   have e2:(m+1)*sz=m*sz+sz:=by simp[Nat.add_mul]
   refine⟨r,?_,h2.trans s1,fun q hq=>?_,fun i v' k u hv' hu=>?_⟩
   · simp only[GV,Instr.fill]
     have:¬(v.cells.size≠sz||m*sz+v.cells.size>c.size)=true:=by simp;omega
     simp only[this,if_false,aLt]
     rw[show(Array.foldl (fun cs x=>match x with | (c,j)=>cs.setIfInBounds (m*sz+j) c) c v.cells.zipIdx)=c1 from hc1]
     exact h1
   · rw[h3 q (by omega),s2 q,if_neg (by omega)]
   · cases i with
     | zero=>
       simp at hv';subst hv'
       have hk:k<sz:=by rw[← hv];exact(Array.getElem?_eq_some_iff.1 hu).1
       rw[Nat.add_zero,h3 _ (by omega),s2 _,if_pos (by omega),show m*sz+k-m*sz=k by omega]
       exact hu
     | succ i=>
       have:=h4 i v' k u (by simpa using hv') hu
       rwa [show m+1+i=m+(i+1)by omega]at this
end
end Go.Ev
namespace Go.Ev
open Go
variable [Names]
section
variable {P : Program} {ρ : Operand → Value} {F : Fz} {g : Gh} {H : af} {w : World}
theorem ND(hH:az F g H w)(o:Nat):F w.heap.size o=none:=by
 cases h:F w.heap.size o with
 | none=>rfl
 | some v=>have:=hH.ltF h;omega
theorem yd(hH:az F g H w):¬g.has w.heap.size:=fun h=>by have:=hH.lt h;omega
theorem gP(w:World)(o:Go.Obj):∀b,b<w.heap.size→(w.alloc o).heap[b]?=w.heap[b]?:=by
 intro b hb
 show(w.heap.push o)[b]?=_
 rw[Array.getElem?_push,if_neg (by omega)]
theorem mI(w:World)(o:Go.Obj):(w.alloc o).heap[w.heap.size]?=some o:=by
 show(w.heap.push o)[w.heap.size]?=_
 simp
theorem kq(w:World)(o:Go.Obj):(w.alloc o).heap.size=w.heap.size+1:=by
 show(w.heap.push o).size=_
 simp
theorem PR(hH:az F g H w){c:Array Value}{cs:List D}(hc:ya F g (shp H) c.toList cs)(ty:TypeId):
 ∃g',az F g' (H++[.box cs]) (w.alloc (.cells c ty))∧Ext F g w F g' (w.alloc (.cells c ty))∧Aft g H g' (H++[.box cs])∧
  bF F g' (shp (H++[.box cs])) (.pointer (some ⟨w.heap.size,0,none⟩)) (.bp H.length 0):=by
 have hg:=hH.grow (gP w (.cells c ty))
 refine⟨g++[⟨some w.heap.size,0⟩],?_,?_,Aft.append hH.len _ _,?_⟩
 · refine hg.add ⟨some w.heap.size,0⟩ (.box cs) (.inr ⟨w.heap.size,c,ty,rfl,mI w _,by simpa using hc.1,fun i v d hv hd=>⟨hc.2.1 v (aLd (by simpa using hv)),?_⟩,ND hH⟩) ?_
   · exact(hc.2.2 i v d (by simpa using hv) hd).aft (mS.refl F) (Aft.append hH.len _ _)
   · intro b hb;cases hb;exact yd hH
 · refine Ext.add _ (by rw[kq];omega) (gP w _) fun b hb=>?_
   cases hb;exact aLs _
 · refine .bp _ _ _ 0 ?_ ?_
   · rw[← hH.len];simp
   · simp[shp,Obj.sh]
theorem Df(hH:az F g H w){c:Array Value}{es:List D}{sz cap:Nat}(hs:c.size=cap*sz)(hle:es.length≤cap)(hz:∀e∈es,e.cells.length=sz∧e.lO=true)
 (hc:∀(i:Nat) e (k:Nat) d,es[i]?=some e→e.cells[k]?=some d→∃v,c[i*sz+k]?=some v∧fM v=true∧bF F g (shp H) v d) (ty:TypeId):
 ∃g',az F g' (H++[.arr sz false 0 es]) (w.alloc (.cells c ty))∧Ext F g w F g' (w.alloc (.cells c ty))∧Aft g H g' (H++[.arr sz false 0 es])∧
  bF F g' (shp (H++[.arr sz false 0 es])) (.slice (some ⟨w.heap.size,0,none⟩) es.length cap) (.ref H.length 0 es.length):=by
 have hg:=hH.grow (gP w (.cells c ty))
 refine⟨g++[⟨some w.heap.size,cap⟩],?_,?_,Aft.append hH.len _ _,?_⟩
 · refine hg.add ⟨some w.heap.size,cap⟩ _ (.inr ⟨w.heap.size,c,ty,rfl,mI w _,hs,hle,hz,fun i e k d he hd=>?_,fun o v hv=>?_⟩) ?_
   · obtain⟨v,h1,h2,h3⟩:=hc i e k d he hd
     exact⟨v,h1,h2,h3.aft (mS.refl F) (Aft.append hH.len _ _)⟩
   · rw[ND hH]at hv;cases hv
   · intro b hb;cases hb;exact yd hH
 · refine Ext.add _ (by rw[kq];omega) (gP w _) fun b hb=>?_
   cases hb;exact aLs _
 · have:=bF.ref (F:=F) (g:=g++[⟨some w.heap.size,cap⟩]) (S:=shp (H++[.arr sz false 0 es])) H.length 0 es.length sz ⟨some w.heap.size,cap⟩ (by rw[← hH.len];simp) (by simp[shp,Obj.sh]) (by simp)
   exact this
theorem add_nil(hH:az F g H w)(sz:Nat):∃g',az F g' (H++[.arr sz false 0 []]) w∧Ext F g w F g' w∧Aft g H g' (H++[.arr sz false 0 []])∧
 bF F g' (shp (H++[.arr sz false 0 []])) (.slice none 0 0) (.ref H.length 0 0):=by
 refine⟨g++[⟨none,0⟩],hH.add _ _ (.inl ⟨rfl,.inl rfl⟩) (by simp),Ext.add _ (aLs _) (fun _ _=>rfl) (by simp),Aft.append hH.len _ _,?_⟩
 have:=bF.ref (F:=F) (g:=g++[⟨none,0⟩]) (S:=shp (H++[.arr sz false 0 []])) H.length 0 0 sz ⟨none,0⟩ (by rw[← hH.len];simp) (by simp[shp,Obj.sh]) (fun _=>rfl)
 exact this
theorem Dg{id:Nat}:∀(live:List (Nat×Nat)) {g:Gh} {H:af} {cs:List D},az F g H w→H[id]?=some (.box cs)→
 ∃g',az F g' (H.set id (.box (cq H.length cs live).1)++(cq H.length cs live).2) w∧Ext F g w F g' w∧Aft g H g' (H.set id (.box (cq H.length cs live).1)++(cq H.length cs live).2)∧
  ∀c:List Value,ya F g (shp H) c cs→ya F g' (shp (H.set id (.box (cq H.length cs live).1)++(cq H.length cs live).2)) c (cq H.length cs live).1
 | [],g,H,cs,hH,hid=>by
   have this:H.set id (.box cs)=H:=by
    apply List.ext_getElem?
    intro i
    by_cases e:id=i
    · subst e;rw[aLj (aj hid),hid]
    · rw[aLi e]
   refine⟨g,?_,Ext.refl F g w,?_,?_⟩<;>simp only[cq,List.append_nil]
   · rw[this];exact hH
   · rw[this];exact Aft.refl g H
   · rw[this];exact fun c hc=>hc
 | (off,sz)::live,g,H,cs,hH,hid=>by
   unfold cq
   split
   · rename_i hoff
     obtain⟨g1,a1,a2,a3,a4⟩:=add_nil hH sz
     have hidlt:=aj hid
     have hid1:(H++[Obj.arr sz false 0 []])[id]?=some (.box cs):=get_append hid
     obtain⟨og,hog,hf⟩:=a1.og hid1
     have hset:∀o:Obj,(H++[Obj.arr sz false 0 []]).set id o=H.set id o++[Obj.arr sz false 0 []]:=fun o=>by rw[List.set_append_left _ _ hidlt]
     have hA:Aft g1 (H++[Obj.arr sz false 0 []]) (g1.set id og) ((H++[Obj.arr sz false 0 []]).set id (Obj.box (cs.set off (.ref H.length 0 0)))):=
      Aft.set hog hid1 (.inl ⟨rfl,rfl,rfl⟩)
     have hgs:g1.set id og=g1:=by
      apply List.ext_getElem?
      intro i
      by_cases e:id=i
      · subst e;rw[aLj (aj hog),hog]
      · rw[aLi e]
     have key:∀ {c:Array Value},(∀(i:Nat) v d,c[i]?=some v→cs[i]?=some d→fM v=true∧bF F g1 (shp (H++[Obj.arr sz false 0 []])) v d)→∀(i:Nat) v d,c[i]?=some v→
      (cs.set off (.ref H.length 0 0))[i]?=some d→fM v=true∧bF F (g1.set id og) (shp ((H++[Obj.arr sz false 0 []]).set id (Obj.box (cs.set off (.ref H.length 0 0))))) v d:=by
      intro c hv i v d hv' hd
      by_cases e:off=i
      · subst e
        rw[aLj (aj hoff)]at hd
        cases hd
        obtain⟨k1,k2⟩:=hv off v .nil hv' hoff
        cases k2
        exact⟨rfl,a4.aft (mS.refl F) hA⟩
      · rw[aLi e]at hd
        obtain⟨k1,k2⟩:=hv i v d hv' hd
        exact⟨k1,k2.aft (mS.refl F) hA⟩
     have hfit:Fits F (g1.set id og) (shp ((H++[Obj.arr sz false 0 []]).set id (Obj.box (cs.set off (.ref H.length 0 0))))) w og (Obj.box (cs.set off (.ref H.length 0 0))):=by
      rcases hf with⟨h0,c,hsz,hv⟩ | ⟨b,c,ty,hb,hc,hsz,hv,hfz⟩
      · exact .inl ⟨h0,c,by simpa using hsz,key hv⟩
      · exact .inr ⟨b,c,ty,hb,hc,by simpa using hsz,key hv,hfz⟩
     have h2:=a1.upd hog hid1 hA hfit (fun b hb=> .inl hb) (fun _ _ _=>rfl) (fun b o v hv _=>a1.agree b o v hv)
     rw[hgs]at h2 hA
     rw[hgs]at key
     have hid2:((H++[Obj.arr sz false 0 []]).set id (.box (cs.set off (.ref H.length 0 0))))[id]?=some (.box (cs.set off (.ref H.length 0 0))):=
      aLj (by simp;omega)
     obtain⟨g3,b1,b2,b3,b4⟩:=Dg live h2 hid2
     have hlen:((H++[Obj.arr sz false 0 []]).set id (.box (cs.set off (.ref H.length 0 0)))).length=H.length+1:=by simp
     rw[hlen]at b1 b3 b4
     have heq:∀(o:Obj) (os:af),((H++[Obj.arr sz false 0 []]).set id (.box (cs.set off (.ref H.length 0 0)))).set id o++os=H.set id o++(.arr sz false 0 []::os):=by
      intro o os
      rw[List.set_set,hset];simp
     rw[heq]at b1 b3 b4
     refine⟨g3,b1,a2.trans b2,a3.trans (hA.trans b3),fun c hc=>b4 c ⟨by simpa using hc.1,hc.2.1,fun i v d hv hd=>?_⟩⟩
     exact(key (c:=c.toArray) (fun i v d hv hd=>⟨hc.2.1 v (aLd (by simpa using hv)),(hc.2.2 i v d (by simpa using hv) hd).aft (mS.refl F) a3⟩) i v d (by simpa using hv) hd).2
   · exact Dg live hH hid
theorem Ko(hH:az F g H w){p:D}{live:List (Nat×Nat)}{H':af}(h:tA H p live=some H'):
 ∃g',az F g' H' w∧Ext F g w F g' w∧Aft g H g' H':=by
 unfold tA at h
 split at h
 · cases h;exact⟨g,hH,Ext.refl F g w,Aft.refl g H⟩
 · split at h
   · split at h
     · rename_i hid
       cases h
       obtain⟨g',h1,h2,h3,_⟩:=Dg _ hH hid
       exact⟨g',h1,h2,h3⟩
     · cases h
   · cases h
theorem yU(v:Value):v.oneCell'=fM v:=by cases v<;>rfl
theorem setRow_size(w:World)(b:Nat)(cs:Array Value):(w.setRow b cs).heap.size=w.heap.size:=by simp[World.setRow]
theorem Bp{t:TypeId}{v:Value}{b o:Nat}{c:Array Value}{ty:TypeId}(hs:vd P t=some v.cells.size)(hb:w.heap[b]?=some (.cells c ty (0,0)))
 (hl:o+v.cells.size≤c.size) (hv:∀u∈v.cells.toList,fM u=true) {r:List Value} (hr:bq c.toList o v.cells.toList=some r):
 (storeVar t ⟨b,o,none⟩ v).run P w= .ok () (w.setRow b r.toArray):=by
 have h:=run_storeCells_at P b o ty v.cells.toList 0 c w hb (by simpa using hl) (fun u hu=>by rw[yU];exact hv u hu)
 unfold bq at hr
 split at hr
 · cases hr
   simp only[Nat.add_zero]at h
   simp[storeVar,run_sizeOf hs,h]
 · cases hr
theorem ya.fill{S:Nat→Option Sh}{c vs r:List Value}{cs ds cs':List D}{off:Nat}(hc:ya F g S c cs)(hd:ya F g S vs ds)(hr:bq c off vs=some r)
 (hf:bq cs off ds=some cs'):ya F g S r cs':=by
 obtain⟨_,a2,a3⟩:=ez hr
 have:=IK (F:=F) (g:=g) (S:=S) (c:=c.toArray) (r:=r.toArray) (vs:=vs.toArray) (by simpa using hc) (by simpa using hd) hf (by simpa using a2) (fun i=>by simpa using a3 i)
 simpa using this
theorem GW{agg:Bool}{cs:List D}{d:D}(h:fU agg cs=some d)(hl:∀c∈cs,c.isAgg=false):d.cells=cs:=by
 unfold fU at h
 split at h
 · cases h
   unfold xa
   split
   · rename_i ts hts
     have:=C8 hts
     simp[D.cells,T.cells,this]
   · rfl
 · split at h
   · cases h
     have:=hl d (by simp)
     cases d<;>simp[D.isAgg]at this<;>try rfl
     rename_i x
     cases x<;>simp at this<;>rfl
   · cases h
theorem NF{S:Nat→Option Sh}{v:Value}{d:D}(h:bF F g S v d)(hl:fM v=true):d.isAgg=false:=by
 cases h with
 | t v x hx=>cases hx<;>first | rfl | (simp[fM]at hl)
 | agg=>simp[fM]at hl
 | _=>rfl
theorem TJ(hH:az F g H w){vp vx:Value}{p x:D}(hp:bF F g (shp H) vp p)(hx:bF F g (shp H) vx x){n:Nat}{H':af}(h:Bl H p x n=some H'){t:TypeId}(hs:vd P t=some n):
 ∃w' g',(Instr.storeAt t vp vx).run P w= .ok () w'∧az F g' H' w'∧Ext F g w F g' w'∧Aft g H g' H':=by
 unfold Bl at h
 split at h
 · rename_i hcnd
   obtain⟨hn,hsol⟩:=hcnd
   have hxc:=gO hx hsol
   have hxs:vx.cells.size=n:=by rw[← hn];simpa using hxc.1
   split at h
   · -- a variable
     rename_i id off
     split at h
     · rename_i cs hid
       obtain⟨cs',hcs',rfl⟩:=aLb.1 h
       cases hp with
       | bp _ _ b cap hg hsb=>
       obtain⟨b',c,ty,hb,hc,hsz,hv,hfz⟩:=(hH.fits id _ _ hid hg).born
       cases hb
       obtain⟨f1,f2,f3⟩:=ez hcs'
       have hfit:off+vx.cells.toList.length≤c.toList.length:=by simp;omega
       obtain⟨r,hr⟩:∃r,bq c.toList off vx.cells.toList=some r:=by unfold bq;rw[if_pos hfit];exact⟨_,rfl⟩
       have hrun:=Bp (P:=P) (w:=w) (t:=t) (v:=vx) (by rw[hs,hxs]) hc (by simpa using hfit) hxc.2.1 hr
       have hC:ya F g (shp H) c.toList cs:=⟨by simpa using hsz,fun u hu=>by
        obtain⟨i,hi⟩:=aLf.1 hu
        obtain⟨d,hd⟩:=ah (m:=cs) (by simpa using hsz) hi
        exact(hv i u d (by simpa using hi) hd).1,fun i u d hu hd=>(hv i u d (by simpa using hu) hd).2⟩
       have hR:=ya.fill hC hxc hr hcs'
       have hA:Aft g H (g.set id ⟨some b,cap⟩) (H.set id (.box cs')):=Aft.set hg hid (.inl ⟨rfl,rfl,rfl⟩)
       have hoth:∀b1,b1<w.heap.size→(⟨some b,cap⟩:OG).blk≠some b1→(w.setRow b r.toArray).heap[b1]?=w.heap[b1]?:=fun b1 _ hne=>setRow_other w b b1 _ (fun e=>hne (by simp[e]))
       refine⟨_,g.set id ⟨some b,cap⟩,by simpa [Instr.storeAt,Instr.sureAddr]using hrun,?_,?_,hA⟩
       · refine hH.upd hg hid hA (.inr ⟨b,r.toArray,ty,rfl,setRow_heap w b c _ ty _ hc,by simpa using hR.1,fun i u d hu hd=>?_,hfz⟩) (fun b hb=> .inl hb) hoth ?_
         · refine⟨hR.2.1 u (aLd (by simpa using hu)),(hR.2.2 i u d (by simpa using hu) hd).aft (mS.refl F) hA⟩
         · intro b1 o v hv hb
           cases hb
           rw[hfz o]at hv;cases hv
       · exact Ext.upd hg (by rw[setRow_size];exact aLs _) (fun b hb=> .inl hb) hoth
     · cases h
   · -- an element of a live array
     rename_i id ep m i off
     obtain⟨a,ha,h⟩:=aLa.1 h
     obtain⟨hid,hm⟩:=eK ha
     split at h
     · cases h
     · rename_i hpin
       obtain⟨e,he,h⟩:=aLa.1 h
       obtain⟨cs',hcs',h⟩:=aLa.1 h
       obtain⟨e',he',h⟩:=aLa.1 h
       split at h
       · rename_i hsol'
         cases h
         cases hp with
         | apOld _ _ _ _ _ _ sz ep' n' hs' hpast=>rw[mm hid]at hs';cases hs';subst hm;exact(CN hpast).elim
         | ap _ _ _ _ _ sz b cap hg hsb=>
           rw[mm hid]at hsb;cases hsb
           rcases hH.fits id _ _ hid hg with⟨h1,_⟩ | ⟨b',c,ty,hb,hc,hsz,hle,hz,hcell,hfz⟩
           · cases h1
           · cases hb
             obtain⟨f1,f2,f3⟩:=ez hcs'
             have hez:=(hz e (aLd he)).1
             have hi:=aj he
             have hblk:(i+1)*a.1≤c.size:=by rw[hsz];exact Nat.mul_le_mul_right _ (by omega)
             have hmul:(i+1)*a.1=i*a.1+a.1:=by simp[Nat.add_mul]
             have hfit:(i*a.1+off)+vx.cells.toList.length≤c.toList.length:=by simp;omega
             obtain⟨r,hr⟩:∃r,bq c.toList (i*a.1+off) vx.cells.toList=some r:=by unfold bq;rw[if_pos hfit];exact⟨_,rfl⟩
             obtain⟨r1,r2,r3⟩:=ez hr
             have hrun:=Bp (P:=P) (w:=w) (t:=t) (v:=vx) (by rw[hs,hxs]) hc (by simpa using hfit) hxc.2.1 hr
             -- the element's new cells
             have hcell':∀(k:Nat) d,cs'[k]?=some d→∃u,r[i*a.1+k]?=some u∧fM u=true∧bF F g (shp H) u d:=by
              intro k d hd
              have hk:=aj hd
              rw[f3 k]at hd
              rw[r3 (i*a.1+k)]
              split at hd
              · rename_i hin
                rw[if_pos (by have:=hxc.1;omega),show i*a.1+k-(i*a.1+off)=k-off by omega]
                obtain⟨u,hu⟩:=ah hxc.1.symm hd
                exact⟨u,hu,hxc.2.1 u (aLd hu),hxc.2.2 _ u d hu hd⟩
              · rename_i hout
                rw[if_neg (by have:=hxc.1;omega)]
                obtain⟨u,h1,h2,h3⟩:=hcell i e k d he hd
                exact⟨u,by simpa using h1,h2,h3⟩
             have hcc:e'.cells=cs':=GW he' (fun d hd=>by
              obtain⟨k,hk⟩:=aLf.1 hd
              obtain⟨u,_,h2,h3⟩:=hcell' k d hk
              exact NF h3 h2)
             have hA:Aft g H (g.set id ⟨some b,cap⟩) (H.set id (.arr a.1 false ep (a.2.2.set i e'))):=
              Aft.set hg hid (.inr ⟨a.1,ep,a.2.2.length,a.1,ep,a.2.2.length,rfl,by simp[Obj.sh],.inr ⟨rfl,rfl,rfl,rfl⟩⟩)
             have hoth:∀b1,b1<w.heap.size→(⟨some b,cap⟩:OG).blk≠some b1→(w.setRow b r.toArray).heap[b1]?=w.heap[b1]?:=fun b1 _ hne=>setRow_other w b b1 _ (fun e=>hne (by simp[e]))
             have hFno:∀o,F b o=none:=by
              intro o
              cases hv:F b o with
              | none=>rfl
              | some v=>have:=(hfz o v hv).1;simp[this]at hpin
             refine⟨_,g.set id ⟨some b,cap⟩,by simpa [Instr.storeAt,Instr.sureAddr]using hrun,?_,?_,hA⟩
             · refine hH.upd hg hid hA (.inr ⟨b,r.toArray,ty,rfl,setRow_heap w b c _ ty _ hc,by simpa [r2]using hsz,by simpa using hle,?_,?_,?_⟩) (fun b hb=> .inl hb) hoth ?_
               · intro d hd
                 rcases aLk hd with h1 | h1
                 · exact hz d h1
                 · subst h1;exact⟨by rw[hcc,f2,hez],hsol'⟩
               · intro q d k y hd hy
                 by_cases hq:i=q
                 · subst hq
                   rw[aLj hi]at hd
                   cases hd
                   rw[hcc]at hy
                   obtain⟨u,h1,h2,h3⟩:=hcell' k y hy
                   exact⟨u,by simpa using h1,h2,h3.aft (mS.refl F) hA⟩
                 · rw[aLi hq]at hd
                   obtain⟨u,h1,h2,h3⟩:=hcell q d k y hd hy
                   refine⟨u,?_,h2,h3.aft (mS.refl F) hA⟩
                   have hk:k<a.1:=by rw[← (hz d (aLd hd)).1];exact aj hy
                   have hlen:=hxc.1
                   have hne:¬(i*a.1+off≤q*a.1+k∧q*a.1+k<i*a.1+off+vx.cells.toList.length):=by
                    intro hc2
                    rcases Nat.lt_or_gt_of_ne hq with h5 | h5
                    · have:(i+1)*a.1≤q*a.1:=Nat.mul_le_mul_right _ h5
                      omega
                    · have:(q+1)*a.1≤i*a.1:=Nat.mul_le_mul_right _ h5
                      simp only[Nat.add_mul]at this
                      omega
                   have:=r3 (q*a.1+k)
                   rw[if_neg hne]at this
                   simpa [this]using h1
               · intro o v hv;rw[hFno o]at hv;cases hv
               · intro b1 o v hv hb
                 cases hb
                 rw[hFno o]at hv;cases hv
             · exact Ext.upd hg (by rw[setRow_size];exact aLs _) (fun b hb=> .inl hb) hoth
       · cases h
   · cases h
 · cases h
end
end Go.Ev
namespace Go.Ev
open Go
variable [Names]
structure Row(F:Fz)(g:Gh)(S:Nat→Option Sh)(sz:Nat)(news:List Value)(ys:List D):Prop where
 len:news.length=ys.length*sz
 size:∀e∈ys,e.cells.length=sz∧e.lO=true
 leaf:∀u∈news,fM u=true
 cell:∀(i:Nat) e (k:Nat) d,ys[i]?=some e→e.cells[k]?=some d→∃u,news[i*sz+k]?=some u∧fM u=true∧bF F g S u d
def Src(w:World)(a:Option Addr)(news:List Value):Prop:=
 news=[]∨∃b o,a=some ⟨b,o,none⟩∧∀(j:Nat) v,news[j]?=some v→w.cell? ⟨b,o+j,none⟩=some v
section
variable {P : Program} {ρ : Operand → Value} {F : Fz} {g : Gh} {H : af} {w : World}
theorem GX{sz:Nat}:∀ {ys:List D},(∀e∈ys,e.cells.length=sz)→(ys.flatMap D.cells).length=ys.length*sz∧
 (∀(i:Nat) e (k:Nat) d,ys[i]?=some e→e.cells[k]?=some d→(ys.flatMap D.cells)[i*sz+k]?=some d)∧
 (∀(q:Nat) d,(ys.flatMap D.cells)[q]?=some d→∃i e k,ys[i]?=some e∧e.cells[k]?=some d∧q=i*sz+k)
 | [],_=>⟨by simp,fun i e k d h=>by simp at h,fun q d h=>by simp at h⟩
 | y::ys,hz=>by
   obtain⟨h1,h2,h3⟩:=GX (ys:=ys) (fun e he=>hz e (by simp[he]))
   have hy:=hz y (by simp)
   refine⟨by simp[h1,hy,Nat.add_mul];omega,fun i e k d he hd=>?_,fun q d hd=>?_⟩
   · cases i with
     | zero=>
       simp at he;subst he
       simp only[List.flatMap_cons,Nat.zero_mul,Nat.zero_add]
       rw[aLg (aj hd)];exact hd
     | succ i=>
       simp at he
       have:=h2 i e k d he hd
       simp only[List.flatMap_cons,Nat.add_mul,Nat.one_mul]
       rw[aLh (by omega),hy,show i*sz+sz+k-sz=i*sz+k by omega]
       exact this
   · simp only[List.flatMap_cons]at hd
     by_cases hq:q<y.cells.length
     · rw[aLg hq]at hd
       exact⟨0,y,q,rfl,hd,by simp⟩
     · rw[aLh (by omega),hy]at hd
       obtain⟨i,e,k,e1,e2,e3⟩:=h3 _ d hd
       refine⟨i+1,e,k,by simpa using e1,e2,?_⟩
       rw[Nat.add_mul];omega
theorem uw(hH:az F g H w){v:Value}{y:D}(hy:bF F g (shp H) v y){ys:List D}(he:elems H y=some ys){sz:Nat}(hs:cD sz ys=true):
 ∃a c news,v= .slice a ys.length c∧Row F g (shp H) sz news ys∧Src w a news:=by
 -- out of cells that are known
 have fin:∀ {b o:Nat} {ys:List D},(∀e∈ys,e.cells.length=sz∧e.lO=true)→
  (∀(i:Nat) e (k:Nat) d,ys[i]?=some e→e.cells[k]?=some d→∃u,w.cell? ⟨b,o+(i*sz+k),none⟩=some u∧fM u=true∧bF F g (shp H) u d)→
  ∃news,Row F g (shp H) sz news ys∧Src w (some ⟨b,o,none⟩) news:=by
  intro b o ys hz hc
  obtain⟨f1,f2,f3⟩:=GX (sz:=sz) (ys:=ys) (fun e he=>(hz e he).1)
  obtain⟨news,h1,h2⟩:=collect (F:=F) (g:=g) (S:=shp H) (xs:=ys.flatMap D.cells) (Q:=fun q u=>w.cell? ⟨b,o+q,none⟩=some u) (fun q d hd=>by
   obtain⟨i,e,k,e1,e2,e3⟩:=f3 q d hd
   subst e3
   exact hc i e k d e1 e2)
  refine⟨news,⟨h1.1.trans f1,hz,h1.2.1,fun i e k d he hd=>?_⟩,.inr ⟨b,o,rfl,h2⟩⟩
  have hfd:=f2 i e k d he hd
  obtain⟨u,hu⟩:=ah h1.1.symm hfd
  exact⟨u,hu,h1.2.1 u (aLd hu),h1.2.2 _ u d hu hfd⟩
 have none_:Row F g (shp H) sz [] []:=⟨by simp,by simp,by simp,fun i e k d h=>by simp at h⟩
 unfold elems at he
 split at he
 · rename_i es
   cases he
   cases hy with | t _ _ hy=>
   cases hy with
   | sl0 a c=>exact⟨a,c,[],by simp,none_,.inl rfl⟩
   | sl b off cap sz' es cv hcap hz hF hr=>
     by_cases hne:es=[]
     · subst hne;exact⟨_,cap,[],rfl,none_,.inl rfl⟩
     · have hsz:sz'=sz:=by
        cases es with
        | nil=>exact(hne rfl).elim
        | cons e es=>
          simp only[cD,List.map_cons,beq_iff_eq]at hs
          rw[← hz e (by simp),←hs];simp[D.cells]
       subst hsz
       obtain⟨news,h1,h2⟩:=fin (b:=b) (o:=off) (ys:=es.map D.t) (fun e he=>by
        simp only[List.mem_map]at he
        obtain⟨x,hx,rfl⟩:=he
        exact⟨by simp[D.cells,hz x hx],rfl⟩) (fun i e k d he hd=>by
        simp only[aLn,aLb]at he
        obtain⟨x,hx,rfl⟩:=he
        obtain⟨c,hc,rfl⟩:=Ar x hd
        obtain⟨k1,k2⟩:=hF i x k c hx hc
        exact⟨_,by rw[← Nat.add_assoc];exact hH.agree _ _ _ k1,k2,.t _ _ (hr i x k c hx hc)⟩)
       exact⟨_,cap,news,by simp,h1,h2⟩
 · cases he;cases hy;exact⟨none,0,[],rfl,none_,.inl rfl⟩
 · rename_i id ep n
   obtain⟨a,ha,rfl⟩:=aLb.1 he
   obtain⟨hid,hm⟩:=eK ha
   obtain⟨og,hog,hbn,rfl⟩:=hy.vv hid hm
   rcases (hH.fits id _ og hid hog).old hbn with⟨h1,h2⟩ | ⟨b,c,ty,hb,hc,hsz,hle,hz,hcell,_⟩
   · rw[h2]at hm
     simp at hm;subst hm
     refine⟨none,0,[],by simp[dE,h1,h2],?_,.inl rfl⟩
     rw[h2];exact none_
   · by_cases hne:a.2.2=[]
     · refine⟨some ⟨b,0,none⟩,og.cap,[],by simp[dE,hb,hm],?_,.inl rfl⟩
       rw[hne];exact none_
     · have hsz:a.1=sz:=by
        cases hes:a.2.2 with
        | nil=>exact(hne hes).elim
        | cons e es=>
          rw[hes]at hs
          simp only[cD,beq_iff_eq]at hs
          rw[← (hz e (by rw[hes];simp)).1,hs]
       rw[hsz]at hz hcell
       obtain⟨news,h1,h2⟩:=fin (b:=b) (o:=0) (ys:=a.2.2) hz (fun i e k d he hd=>by
        obtain⟨u,h1,h2,h3⟩:=hcell i e k d he hd
        exact⟨u,by simp only[World.cell?,hc];simpa using h1,h2,h3⟩)
       exact⟨_,og.cap,news,by simp[dE,hb,hm],h1,h2⟩
 · rename_i id ep n lo hi
   obtain⟨a,ha,rfl⟩:=aLb.1 he
   obtain⟨hid,hm⟩:=eK ha
   rcases hy.Ao hid hm with⟨b,cc,cap',hog,hlt,hle',hcap,rfl⟩ | ⟨hle',a',cap',rfl⟩
   · have hlen:((a.2.2.drop lo).take (hi-lo)).length=hi-lo:=by simp;omega
     rcases hH.fits id _ _ hid hog with⟨h1,h2⟩ | ⟨b',c,ty,hb,hc,hsz,hle,hz,hcell,_⟩
     · cases h1
     · cases hb
       have hsz:a.1=sz:=by
        have hlo:lo<a.2.2.length:=by omega
        have h0:((a.2.2.drop lo).take (hi-lo))[0]?=some a.2.2[lo]:=by
         rw[aLo,if_pos (by omega),List.getElem?_drop];simp[aLc hlo]
        cases hes:(a.2.2.drop lo).take (hi-lo)with
        | nil=>rw[hes]at hlen;simp at hlen;omega
        | cons e es=>
          rw[hes]at hs h0
          simp only[cD,beq_iff_eq]at hs
          simp at h0;subst h0
          rw[← (hz _ (List.getElem_mem hlo)).1,hs]
       rw[hsz]at hz hcell
       obtain⟨news,h1,h2⟩:=fin (b:=b) (o:=lo*sz) (ys:=(a.2.2.drop lo).take (hi-lo)) (fun e he=>hz e (List.mem_of_mem_drop (List.mem_of_mem_take he))) (fun i e k d he hd=>by
        have hi':=aj he
        rw[aLo,if_pos (by omega),List.getElem?_drop]at he
        obtain⟨u,h1,h2,h3⟩:=hcell (lo+i) e k d he hd
        refine⟨u,?_,h2,h3⟩
        simp only[World.cell?,hc]
        rw[Nat.add_mul]at h1
        simpa [Nat.add_assoc]using h1)
       refine⟨_,cap',news,?_,h1,h2⟩
       rw[hlen,hsz]
   · have:(a.2.2.drop lo).take (hi-lo)=[]:=by rw[Nat.sub_eq_zero_of_le hle'];simp
     rw[this]
     exact⟨a',cap',[],rfl,none_,.inl rfl⟩
 · cases he
theorem Row.frz(hH:az F g H w){sz:Nat}{news:List Value}{ys0 ys:List D}(h:Row F g (shp H) sz news ys0)(hy:cK (fun d=>(Ev.frz H depth d).map D.t) ys0=some ys):
 Row (uv F g H w (ys0.flatMap (gu H depth))) g (shp H) sz news ys:=by
 obtain⟨h1,h2⟩:=bI hy
 have el:∀(k:Nat) (d:D),ys[k]?=some d→∃e x,ys0[k]?=some e∧Ev.frz H depth e=some x∧d=D.t x:=by
  intro k d hd
  obtain⟨e,he⟩:=ah h1.symm hd
  obtain⟨x,hx,rfl⟩:=aLb.1 (h2 k e d he hd)
  exact⟨e,x,he,hx,rfl⟩
 refine⟨by rw[h.len,h1],fun d hd=>?_,h.leaf,fun i d k y hd hy=>?_⟩
 · obtain⟨k,hk⟩:=aLf.1 hd
   obtain⟨e,x,he,hx,rfl⟩:=el k d hk
   exact⟨by simp only[D.cells,List.length_map];rw[C1 hx];exact(h.size e (aLd he)).1,rfl⟩
 · obtain⟨e,x,he,hx,rfl⟩:=el i d hd
   obtain⟨c,hc,rfl⟩:=Ar x hy
   obtain⟨d0,m,hd0,hfd,_,hsub⟩:=wL hx hc
   obtain⟨u,k1,k2,k3⟩:=h.cell i e k d0 he hd0
   refine⟨u,k1,k2,.t _ _ ((C2 hH m k3 hfd).mono (mH fun j hj=>?_))⟩
   simp only[List.mem_flatMap]
   exact⟨e,aLd he,hsub j hj⟩
theorem qE{sz m c:Nat}{a:Option Addr}{news:List Value}(hs:Src w a news)(hl:news.length=m*sz):(Builtin.firstCells sz m (.slice a m c)).run P w= .ok news.toArray w:=by
 rcases hs with rfl | ⟨b,o,rfl,h⟩
 · have h0:m*sz=0:=by simpa using hl.symm
   cases a with
   | none=>exact run_firstCells_none (P:=P) w sz m m c
   | some ad=>
     simp only[Builtin.firstCells,h0]
     simp[loadCells,loadCellsFrom]
 · exact run_firstCells_some (P:=P) w sz m _ m c news hl fun j v hv=>by rw[iH];exact h j v hv
theorem Src.drew{a:Option Addr}{news:List Value}(hs:Src w a news):Src w.drew a news:=hs
theorem IL{t u ty e e2:TypeId}{i:TypeInfo}(ht:P.underlying t=some (.slice e))(hu:P.underlying u=some (.slice e2))(hi:P.info? e=some i)
 {b sLen sCap m c:Nat} {cur:Array Value} {bt:TypeId} (hb:w.heap[b]?=some (.cells cur bt (0,0))) {a:Option Addr} {news:List Value} (hs:Src w a news) (hl:news.length=m*i.size)
 (h1:∀v∈news,fM v=true) (hroom:sLen+m≤sCap) {r:List Value} (hr:bq cur.toList (sLen*i.size) news=some r):
 (Builtin.append_ #[t,u] ty #[.slice (some ⟨b,0,none⟩) sLen sCap,.slice a m c]).run P w= .ok (.slice (some ⟨b,0,none⟩) (sLen+m) sCap) (w.setRow b r.toArray):=by
 have hf:=qE (P:=P) (c:=c) hs hl
 have hfit:sLen*i.size+news.length≤cur.size:=by have:=(ez hr).1;simpa using this
 have hst:=run_storeCells_at P b (sLen*i.size) bt news 0 cur w hb (by simpa using hfit) (fun v hv=>by rw[yU];exact h1 v hv)
 unfold bq at hr
 rw[if_pos (by simpa using hfit)]at hr
 cases hr
 simp only[Nat.add_zero]at hst
 simp[Builtin.append_,run_underlying ht,run_underlying hu,sizeOf,typeInfo,hi,Builtin.lenOf,hroom,hf,Addr.add_lit,hst]
theorem Bq{t u ty e e2:TypeId}{i:TypeInfo}(ht:P.underlying t=some (.slice e))(hu:P.underlying u=some (.slice e2))(hi:P.info? e=some i){a:Option Addr}{c:Nat}:
 (Builtin.append_ #[t,u] ty #[.slice none 0 0,.slice a 0 c]).run P w= .ok (.slice none 0 0) w:=by
 have hf:=qE (P:=P) (w:=w) (sz:=i.size) (m:=0) (c:=c) (a:=a) (news:=[]) (.inl rfl) (by simp)
 simp[Builtin.append_,run_underlying ht,run_underlying hu,sizeOf,typeInfo,hi,Builtin.lenOf,hf]
theorem rD{t u ty e e2:TypeId}{i:TypeInfo}{z:Value}(ht:P.underlying t=some (.slice e))(hu:P.underlying u=some (.slice e2))(hi:P.info? e=some i)(hz:i.zero=some z)
 {base:Option Addr} {sLen sCap m c:Nat} {olds news:List Value} (ho:Src w base olds) (hlo:olds.length=sLen*i.size) {a:Option Addr} (hs:Src w a news) (hl:news.length=m*i.size)
 (hg:sCap<sLen+m) (h63:((sLen+m:Nat):Int)≤9223372036854775807) (hfit:Builtin.nextslicecap (sLen+m) sCap*i.bytes≤281474976710656):
 ∃cap rest,sLen+m≤cap∧(z.cells.size=i.size→rest.length=(cap-(sLen+m))*i.size)∧(Builtin.append_ #[t,u] ty #[.slice base sLen sCap,.slice a m c]).run P w=
  .ok (.slice (some ⟨w.heap.size,0,none⟩) (sLen+m) cap) (w.drew.alloc (.cells (olds++news++rest).toArray e)):=by
 refine⟨grownCap w (sLen+m) sCap e,(Builtin.zeroCells z.cells (grownCap w (sLen+m) sCap e-(sLen+m))).toList,grownCap_ge w _ _ _,fun h=>?_,?_⟩
 · simp[size_zeroCells,h]
 have h1:¬(sLen+m≤sCap):=by omega
 have h2:¬((sLen:Int)+(m:Int)>9223372036854775807):=by omega
 have hf1:=qE (P:=P) (w:=w.drew) (sz:=i.size) (m:=sLen) (c:=sCap) ho.drew hlo
 have hf2:=qE (P:=P) (w:=w.drew) (sz:=i.size) (m:=m) (c:=c) hs.drew hl
 have hq:(Question.appendCap (sLen+m) sCap e).forced=false:=rfl
 have h3:¬(281474976710656<Builtin.nextslicecap (sLen+m) sCap*i.bytes):=by omega
 simp[Builtin.append_,run_underlying ht,run_underlying hu,sizeOf,typeInfo,hi,Builtin.lenOf,h1,h2,h3,hq,hf1,hf2,zeroValue,hz,newRow,grownCap,Array.append_assoc]
 congr 2
 apply Array.ext'
 simp
theorem az.drew(h:az F g H w):az F g H w.drew:=h.grow fun _ _=>rfl
theorem XI{t u ty e e2:TypeId}{i:TypeInfo}{z:Value}(ht:P.underlying t=some (.slice e))(hu:P.underlying u=some (.slice e2))(hi:P.info? e=some i)(hz:i.zero=some z)
 (hzs:z.cells.size=i.size) (hby:i.bytes≤1024) (hH:az F g H w) {m c:Nat} {a:Option Addr} {news:List Value} {ys:List D} (hm:m=ys.length) (hrow:Row F g (shp H) i.size news ys) (hsrc:Src w a news):
 (∀ {v:Value},v= .slice none 0 0→ys.length≤lim→∃v' w' g',(Builtin.append_ #[t,u] ty #[v,.slice a m c]).run P w= .ok v' w'∧bF F g' (shp (H++[.arr i.size false 0 ys])) v' (.ref H.length 0 ys.length)∧
  az F g' (H++[.arr i.size false 0 ys]) w'∧Ext F g w F g' w'∧Aft g H g' (H++[.arr i.size false 0 ys]))∧
 (∀ {v:Value} {id ep:Nat} {pin:Bool} {es:List D},bF F g (shp H) v (.ref id ep es.length)→H[id]?=some (.arr i.size pin ep es)→es.length+ys.length≤lim→
  ∃v' w' g',(Builtin.append_ #[t,u] ty #[v,.slice a m c]).run P w= .ok v' w'∧bF F g' (shp (H.set id (.arr i.size pin ep (es++ys)))) v' (.ref id ep (es.length+ys.length))∧
  az F g' (H.set id (.arr i.size pin ep (es++ys))) w'∧Ext F g w F g' w'∧Aft g H g' (H.set id (.arr i.size pin ep (es++ys)))):=by
 have hlen:news.length=m*i.size:=by rw[hm];exact hrow.len
 have fits:∀n old,n≤lim→old<n→Builtin.nextslicecap n old*i.bytes≤281474976710656:=by
  intro n old hn ho
  refine growslice_fits ho ?_
  have:n*i.bytes≤lim*1024:=Nat.mul_le_mul hn hby
  unfold lim at this;omega
 constructor
 · intro v hv hlim
   subst hv
   by_cases h0:ys=[]
   · subst h0
     have hm0:m=0:=by simpa using hm
     subst hm0
     obtain⟨g',h1,h2,h3,h4⟩:=add_nil hH i.size
     exact⟨_,w,g',Bq ht hu hi,h4,h1,h2,h3⟩
   · have hpos:0<ys.length:=List.length_pos_iff.2 h0
     obtain⟨cap,rest,hcap,hrest,hrun⟩:=rD (P:=P) (w:=w) (ty:=ty) (c:=c) ht hu hi hz (base:=none) (sLen:=0) (sCap:=0) (olds:=[]) (.inl rfl) (by simp) hsrc hlen (by omega)
      (by have:ys.length≤4294967296:=hlim;omega) (fits _ _ (by omega) (by omega))
     simp only[Nat.zero_add,List.nil_append]at hcap hrun hrest
     obtain⟨g',h1,h2,h3,h4⟩:=Df (F:=F) (g:=g) (H:=H) (w:=w.drew) hH.drew (c:=(news++rest).toArray) (es:=ys) (sz:=i.size) (cap:=cap)
      (by simp[hlen,hrest hzs,←Nat.add_mul];congr 1;omega) (by omega) hrow.size (fun k e q d he hd=>by
       obtain⟨u,k1,k2,k3⟩:=hrow.cell k e q d he hd
       exact⟨u,by simpa using get_append k1,k2,k3⟩) e
     refine⟨_,_,g',hrun,?_,h1,⟨h2.sub,h2.size,h2.keep,h2.blks,h2.newF,h2.io⟩,h3⟩
     rw[hm];exact h4
 · intro v id ep pin es hv hid hlim
   obtain⟨og,hog,hbn,rfl⟩:=hv.vv hid rfl
   have sh':∀og':OG,(ys=[]→og'=og)→Aft g H (g.set id og') (H.set id (.arr i.size pin ep (es++ys))):=by
    intro og' h0
    refine Aft.set hog hid (.inr ⟨i.size,ep,es.length,i.size,ep,(es++ys).length,rfl,rfl,?_⟩)
    by_cases hy:ys=[]
    · subst hy;exact .inr ⟨rfl,by simp,rfl,h0 rfl⟩
    · refine .inl (.inr ⟨rfl,?_⟩)
      have:=List.length_pos_iff.2 hy
      simp;omega
   have ref':∀og':OG,(og'.blk=none→(es++ys).length=0)→bF F (g.set id og') (shp (H.set id (.arr i.size pin ep (es++ys)))) (dE og' (es.length+ys.length)) (.ref id ep (es.length+ys.length)):=by
    intro og' h0
    refine .ref id ep _ i.size og' (aLj (aj hog)) ?_ (fun h=>by have:=h0 h;simpa using this)
    simp[shp,aLj (aj hid),Obj.sh]
   have hsz:∀x∈es++ys,(∀x∈es,x.cells.length=i.size∧x.lO=true)→x.cells.length=i.size∧x.lO=true:=by
    intro x hx h1
    rcases List.mem_append.1 hx with h2 | h2
    · exact h1 x h2
    · exact hrow.size x h2
   rcases (hH.fits id _ og hid hog).old hbn with⟨h1,h2⟩ | ⟨b,cur,bt,hb,hc,hsz',hle,hz',hcell,hfz⟩
   · subst h2
     have hv0:dE og ([]:List D).length= .slice none 0 0:=by simp[dE,h1]
     rw[hv0]
     by_cases h0:ys=[]
     · subst h0
       have hm0:m=0:=by simpa using hm
       subst hm0
       have hA:=sh' og (fun _=>rfl)
       refine⟨_,w,g.set id og,Bq ht hu hi,?_,?_,?_,hA⟩
       · have:=ref' og (fun _=>by simp)
         simpa [dE,h1]using this
       · exact hH.upd hog hid hA (.inl ⟨h1,by simp⟩) (fun b hb=> .inl hb) (fun _ _ _=>rfl) (fun b o v hv _=>hH.agree b o v hv)
       · exact Ext.upd hog (aLs _) (fun b hb=> .inl hb) (fun _ _ _=>rfl)
     · have hpos:0<ys.length:=List.length_pos_iff.2 h0
       obtain⟨cap,rest,hcap,hrest,hrun⟩:=rD (P:=P) (w:=w) (ty:=ty) (c:=c) ht hu hi hz (base:=none) (sLen:=0) (sCap:=0) (olds:=[]) (.inl rfl) (by simp) hsrc hlen (by omega)
        (by have:ys.length≤4294967296:=by have:([]:List D).length+ys.length≤4294967296:=hlim;simpa using this
            omega) (fits _ _ (by have:([]:List D).length+ys.length≤lim:=hlim;simp at this;omega) (by omega))
       simp only[Nat.zero_add,List.nil_append]at hcap hrun hrest
       have hA:=sh' ⟨some w.heap.size,cap⟩ (fun h=>(h0 h).elim)
       have hbk:∀b,(⟨some w.heap.size,cap⟩:OG).blk=some b→og.blk=some b∨w.heap.size≤b:=fun b hb=>by cases hb;exact .inr (aLs _)
       have hold:∀b,b<w.heap.size→og.blk≠some b→(w.drew.alloc (.cells (news++rest).toArray e)).heap[b]?=w.heap[b]?:=fun b hb _=>gP w.drew _ b hb
       refine⟨_,_,_,hrun,?_,?_,?_,hA⟩
       · have:=ref' ⟨some w.heap.size,cap⟩ (fun h=>by cases h)
         simpa [dE,hm]using this
       · refine hH.upd hog hid hA (.inr ⟨w.heap.size,(news++rest).toArray,e,rfl,mI w.drew _,?_,?_,?_,?_,?_⟩) hbk hold ?_
         · simp[hlen,hrest hzs,←Nat.add_mul];congr 1;omega
         · simp;omega
         · intro x hx;exact hrow.size x (by simpa using hx)
         · intro k x q d hx hd
           obtain⟨u,k1,k2,k3⟩:=hrow.cell k x q d (by simpa using hx) hd
           exact⟨u,by simpa using get_append k1,k2,k3.aft (mS.refl F) hA⟩
         · intro o v hv;rw[ND hH]at hv;cases hv
         · intro b o v hv hb;rw[h1]at hb;cases hb
       · exact Ext.upd hog (by show _≤(w.drew.alloc _).heap.size;rw[kq];exact Nat.le_succ _) hbk hold
   · have hv0:dE og es.length= .slice (some ⟨b,0,none⟩) es.length og.cap:=by simp[dE,hb]
     rw[hv0]
     by_cases hroom:es.length+m≤og.cap
     · have hfit:es.length*i.size+news.length≤cur.toList.length:=by
        rw[hlen,←Nat.add_mul];simp only[Array.length_toList,hsz'];exact Nat.mul_le_mul_right _ hroom
       obtain⟨r,hr⟩:∃r,bq cur.toList (es.length*i.size) news=some r:=by unfold bq;rw[if_pos hfit];exact⟨_,rfl⟩
       obtain⟨r1,r2,r3⟩:=ez hr
       have hrun:=IL (P:=P) (ty:=ty) (c:=c) ht hu hi hc hsrc hlen hrow.leaf hroom hr
       have hA:=sh' og (fun _=>rfl)
       have hold:∀b1,b1<w.heap.size→og.blk≠some b1→(w.setRow b r.toArray).heap[b1]?=w.heap[b1]?:=fun b1 _ hne=>setRow_other w b b1 _ (fun e=>hne (by rw[e];exact hb))
       have low:∀q,q<es.length*i.size→r[q]?=cur[q]?:=fun q hq=>by
        have:=r3 q
        rw[if_neg (by omega)]at this
        simpa using this
       refine⟨_,_,g.set id og,hrun,?_,?_,?_,hA⟩
       · have:=ref' og (fun h=>by rw[hb]at h;cases h)
         simpa [dE,hb,hm]using this
       · refine hH.upd hog hid hA (.inr ⟨b,r.toArray,bt,hb,setRow_heap w b cur _ bt _ hc,?_,?_,?_,?_,?_⟩) (fun b hb=> .inl hb) hold ?_
         · simpa [r2]using hsz'
         · simp;omega
         · intro x hx;exact hsz x hx hz'
         · intro k x q d hx hd
           have hq:q<i.size:=by rw[← (hsz x (aLd hx) hz').1];exact aj hd
           by_cases hk:k<es.length
           · rw[aLg hk]at hx
             obtain⟨u,k1,k2,k3⟩:=hcell k x q d hx hd
             refine⟨u,?_,k2,k3.aft (mS.refl F) hA⟩
             have:=low (k*i.size+q) (Bm hk hq)
             simpa [this]using k1
           · rw[aLh (by omega)]at hx
             obtain⟨u,k1,k2,k3⟩:=hrow.cell _ x q d hx hd
             refine⟨u,?_,k2,k3.aft (mS.refl F) hA⟩
             have hkk:k*i.size+q=es.length*i.size+((k-es.length)*i.size+q):=by
              rw[← Nat.add_assoc,←Nat.add_mul];congr 2;omega
             have hin:=aj k1
             have:=r3 (k*i.size+q)
             rw[if_pos (by omega),hkk,Nat.add_sub_cancel_left,k1]at this
             rw[← hkk]at this
             simpa using this
         · intro o v hv
           obtain⟨p1,p2⟩:=hfz o v hv
           refine⟨p1,?_⟩
           simp only[aLv,Nat.add_mul];omega
         · intro b1 o v hv hb1
           rw[hb]at hb1;cases hb1
           have hlo:=(hfz o v hv).2
           have h5:=hH.agree _ _ _ hv
           simp only[World.cell?,hc]at h5
           rw[cell_setRow_same w b o cur r.toArray bt _ hc]
           have:=low o hlo
           simpa [this]using h5
       · exact Ext.upd hog (by rw[setRow_size];exact aLs _) (fun b hb=> .inl hb) hold
     · -- a new block
       obtain⟨f1,f2,f3⟩:=GX (sz:=i.size) (ys:=es) (fun x hx=>(hz' x hx).1)
       have hpos:0<ys.length:=by omega
       have h0:ys≠[]:=List.length_pos_iff.1 hpos
       obtain⟨olds,o1,o2⟩:=collect (F:=F) (g:=g) (S:=shp H) (xs:=es.flatMap D.cells) (Q:=fun q u=>w.cell? ⟨b,0+q,none⟩=some u) (fun q d hd=>by
        obtain⟨k,x,p,e1,e2,e3⟩:=f3 q d hd
        subst e3
        obtain⟨u,k1,k2,k3⟩:=hcell k x p d e1 e2
        exact⟨u,by simp only[World.cell?,hc];simpa using k1,k2,k3⟩)
       have holen:olds.length=es.length*i.size:=o1.1.trans f1
       obtain⟨cap,rest,hcap,hrest,hrun⟩:=rD (P:=P) (w:=w) (ty:=ty) (c:=c) ht hu hi hz (base:=some ⟨b,0,none⟩) (sLen:=es.length) (sCap:=og.cap) (olds:=olds) (.inr ⟨b,0,rfl,o2⟩) holen hsrc hlen (by omega)
        (by have:es.length+ys.length≤4294967296:=hlim
            omega) (fits _ _ (by omega) (by omega))
       have hA:=sh' ⟨some w.heap.size,cap⟩ (fun h=>(h0 h).elim)
       have hbk:∀b,(⟨some w.heap.size,cap⟩:OG).blk=some b→og.blk=some b∨w.heap.size≤b:=fun b hb=>by cases hb;exact .inr (aLs _)
       have hold:∀b,b<w.heap.size→og.blk≠some b→(w.drew.alloc (.cells (olds++news++rest).toArray e)).heap[b]?=w.heap[b]?:=fun b hb _=>gP w.drew _ b hb
       refine⟨_,_,_,hrun,?_,?_,?_,hA⟩
       · have:=ref' ⟨some w.heap.size,cap⟩ (fun h=>by cases h)
         simpa [dE,hm]using this
       · refine hH.upd hog hid hA (.inr ⟨w.heap.size,(olds++news++rest).toArray,e,rfl,mI w.drew _,?_,?_,?_,?_,?_⟩) hbk hold ?_
         · simp[hlen,holen,hrest hzs,←Nat.add_mul];congr 1;omega
         · simp;omega
         · intro x hx;exact hsz x hx hz'
         · intro k x q d hx hd
           by_cases hk:k<es.length
           · rw[aLg hk]at hx
             have hfd:=f2 k x q d hx hd
             obtain⟨u,hu⟩:=ah o1.1.symm hfd
             refine⟨u,?_,o1.2.1 u (aLd hu),(o1.2.2 _ u d hu hfd).aft (mS.refl F) hA⟩
             have:=get_append (m:=news++rest) hu
             simpa using this
           · rw[aLh (by omega)]at hx
             obtain⟨u,k1,k2,k3⟩:=hrow.cell _ x q d hx hd
             refine⟨u,?_,k2,k3.aft (mS.refl F) hA⟩
             have hkk:k*i.size+q=olds.length+((k-es.length)*i.size+q):=by
              rw[holen,←Nat.add_assoc,←Nat.add_mul];congr 2;omega
             have k1':=get_append (m:=rest) k1
             simp only[List.getElem?_toArray,List.append_assoc]
             rw[aLh (by omega),hkk,Nat.add_sub_cancel_left]
             exact k1'
         · intro o v hv;rw[ND hH]at hv;cases hv
         · intro b1 o v hv hb1
           rw[hb]at hb1;cases hb1
           have hlt:b<w.heap.size:=gH hc
           rw[oT (gP w.drew _ b hlt)]
           exact hH.agree _ _ _ hv
       · exact Ext.upd hog (by show _≤(w.drew.alloc _).heap.size;rw[kq];exact Nat.le_succ _) hbk hold
end
end Go.Ev
namespace Go.Ev
open Go
variable [Names]
section
variable {P : Program} {ρ : Operand → Value} {F : Fz} {g : Gh} {H : af} {w : World}
theorem GY(hH:az F g H w){i:Nat}{o:Obj}(ho:H[i]?=some o):L4 some o o:=by
 obtain⟨og,hog,hf⟩:=hH.og ho
 cases o with
 | own ep=>exact .own ep
 | box cs=>
   obtain⟨c,hsz,hv⟩:=hf.Kk
   refine .box cs cs rfl fun k x y hx hy=>?_
   rw[hx]at hy;cases hy
   have:k<c.size:=hsz▸aj hx
   exact(hv k _ x (Array.getElem?_eq_getElem this) hx).2.same
 | arr sz pin ep es=>
   refine .arr sz pin ep es es rfl fun k x y hx hy=>?_
   rw[hx]at hy;cases hy
   rcases hf with⟨_,he⟩ | ⟨b,c,ty,hb,hc,hsz,hle,hz,hcell,_⟩
   · rcases he with rfl | he
     · simp at hx
     · obtain⟨y,rfl⟩:=he x (aLd hx)
       exact .t y
   · have hsol:=(hz x (aLd hx)).2
     have hcells:∀(q:Nat) d,x.cells[q]?=some d→Ren some d d:=fun q d hq=>by
      obtain⟨v,_,_,h3⟩:=hcell k x q d hx hq
      exact h3.same
     cases x with
     | t x=>exact .t x
     | nil=>exact .nil
     | agg cs=>exact .agg cs cs rfl fun q a b ha hb=>by rw[ha]at hb;cases hb;exact hcells q a ha
     | bp id off=>exact .bp _ _ _ rfl
     | ap id ep n i off=>exact .ap _ _ _ _ _ _ rfl
     | ep cs=>exact .ep cs
     | ref id ep n=>exact .ref _ _ _ _ rfl
     | sub id ep n lo hi=>exact .sub _ _ _ _ _ _ rfl
     | fn f cs=>exact hcells 0 (.fn f cs) rfl
     | tup cs=>simp[D.lO]at hsol
     | nilp=>exact .nilp
     | und=>exact .und
     | ub=>exact .ub
     | cl es=>exact .cl es
     | q id ep es=>exact .q _ _ _ _ rfl
theorem PS(hH:az F g H w){id b e s ep:Nat}(hg:g[id]?=some ⟨some b,room e s⟩)(ho:H[id]?=some (.own ep))(he:e≤9223372036854775807){F2:Fz}(hsub:mS F F2)
 (hn:∀b' o v,F2 b' o=some v→b'≠b→F b' o=some v) (hm:∀o v,F2 b o=some v→o<e) (ha:∀b' o v,F2 b' o=some v→w.cell? ⟨b',o,none⟩=some v):az F2 g H w:=by
 refine⟨hH.len,fun i o og ho' hog=>?_,hH.sep,ha⟩
 have hf:=hH.fits i o og ho' hog
 by_cases hi:i=id
 · subst hi
   rw[ho]at ho';cases ho'
   rw[hg]at hog;cases hog
   obtain⟨b',c,ty,e',hb,hc,h1,h2,h3,h4⟩:=hf
   cases hb
   obtain⟨rfl,rfl⟩:=L3 h1 he (by omega)
   exact⟨b,c,ty,e,rfl,hc,rfl,h2,h3,hm⟩
 · refine hf.later (GY hH ho') (Aft.refl g _) hsub (fun b' hb' q v hv=>hn b' q v hv fun e1=>?_) fun _ _=>rfl
   subst e1
   exact hH.sep i id og _ b' hi hog hg hb' rfl
def VN(F:Fz)(w:World)(b off:Nat)(es:List T):Prop:=
 ∀(i:Nat) e (k:Nat) c,es[i]?=some e→e.cells[k]?=some c→∃u,w.cell? ⟨b,off+i+k,none⟩=some u∧fM u=true∧lP F u c
theorem XJ(hH:az F g H w){v:Value}{es:List T}(hr:lP F v (.sl es)){b off cap:Nat}(hv:v= .slice (some ⟨b,off,none⟩) es.length cap)(hz:∀e∈es,e.cells.length=1):
 VN F w b off es∧∀(i:Nat),i<es.length→∃u,F b (off+i)=some u:=by
 cases hr with
 | sl0=>exact⟨fun i e k c h=>by simp at h,fun i h=>by simp at h⟩
 | sl b' off' cap' sz' _ cv hcap hz' hF hr=>
   simp only[Value.slice.injEq,Option.some.injEq,Addr.mk.injEq,and_true,true_and]at hv
   obtain⟨⟨rfl,rfl⟩,rfl⟩:=hv
   have one:∀(i:Nat) e,es[i]?=some e→sz'=1:=fun i e h=>by rw[← hz' e (aLd h),hz e (aLd h)]
   refine⟨fun i e k c h hc=>?_,fun i hi=>?_⟩
   · obtain⟨k1,k2⟩:=hF i e k c h hc
     rw[one i e h,Nat.mul_one]at k1
     exact⟨_,hH.agree _ _ _ k1,k2,hr i e k c h hc⟩
   · have h:es[i]?=some es[i]:=aLc hi
     have l1:=hz es[i] (List.getElem_mem hi)
     obtain⟨k1,_⟩:=hF i es[i] 0 _ h (aLc (by omega:0<es[i].cells.length))
     rw[one i _ h,Nat.mul_one,Nat.add_zero]at k1
     exact⟨_,k1⟩
theorem PT(hH:az F g H w){id ep:Nat}{og:OG}(hg:g[id]?=some og)(ho:H[id]?=some (.own ep)){w':World}{b off cap:Nat}{c:Array Value}{ty:TypeId}{es:List T}
 (hc:w'.heap[b]?=some (.cells c ty (0,0))) (hsz:c.size=off+cap) (hmax:off+cap≤9223372036854775807) (hl:es.length≤cap) (hz:∀e∈es,e.cells.length=1) (hq:VN F w' b off es)
 (hFe:∀o v,F b o=some v→o<off+es.length∧w'.cell? ⟨b,o,none⟩=some v) (hbw:og.blk=some b∨w.heap.size≤b) (hw:∀b1,b1<w.heap.size→og.blk≠some b1→w'.heap[b1]?=w.heap[b1]?)
 (ha:∀b1 o v,F b1 o=some v→og.blk=some b1→w'.cell? ⟨b1,o,none⟩=some v) (hs:w.heap.size≤w'.heap.size) (hio:xk w w'):
 ∃F' g',bF F' g' (shp (H.set id (.own (ep+1)))) (.slice (some ⟨b,off,none⟩) es.length cap) (.q id (ep+1) es)∧az F' g' (H.set id (.own (ep+1))) w'∧Ext F g w F' g' w'∧Aft g H g' (H.set id (.own (ep+1))):=by
 have hA:Aft g H (g.set id ⟨some b,room (off+es.length) (off+cap)⟩) (H.set id (.own (ep+1))):=Aft.aeO hg ho (Nat.lt_succ_self ep)
 have hb:∀b1,(⟨some b,room (off+es.length) (off+cap)⟩:OG).blk=some b1→og.blk=some b1∨w.heap.size≤b1:=fun b1 h=>by cases h;exact hbw
 have h1:az F (g.set id ⟨some b,room (off+es.length) (off+cap)⟩) (H.set id (.own (ep+1))) w':=
  hH.upd hg ho hA ⟨b,c,ty,off+es.length,rfl,hc,by rw[hsz],by omega,by omega,fun o v h=>(hFe o v h).1⟩ hb hw ha
 have x1:Ext F g w F (g.set id ⟨some b,room (off+es.length) (off+cap)⟩) w':=Ext.upd hg hs hb hw hio
 have hg':(g.set id ⟨some b,room (off+es.length) (off+cap)⟩)[id]?=some ⟨some b,room (off+es.length) (off+cap)⟩:=aLj (aj hg)
 have ho':(H.set id (.own (ep+1)))[id]?=some (.own (ep+1)):=aLj (aj ho)
 have hsub:mS F (fun b1 o=>if b1=b∧o<off+es.length then w'.cell? ⟨b,o,none⟩else F b1 o):=by
  intro b1 o v h
  show(if b1=b∧o<off+es.length then w'.cell? ⟨b,o,none⟩else F b1 o)=some v
  split
  · rename_i k
    obtain⟨rfl,k⟩:=k
    exact(hFe o v h).2
  · exact h
 have h2:az (fun b1 o=>if b1=b∧o<off+es.length then w'.cell? ⟨b,o,none⟩else F b1 o) (g.set id ⟨some b,room (off+es.length) (off+cap)⟩) (H.set id (.own (ep+1))) w':=by
  refine PS h1 hg' ho' (by omega) hsub (fun b1 o v h hne=>?_) (fun o v h=>?_) (fun b1 o v h=>?_)
  · rw[if_neg (fun k=>hne k.1)]at h;exact h
  · split at h
    · rename_i k;exact k.2
    · exact(hFe o v h).1
  · split at h
    · rename_i k
      obtain⟨rfl,k⟩:=k
      exact h
    · exact h1.agree b1 o v h
 refine⟨_,_,?_,h2,x1.trans ⟨hsub,aLs _,fun _ _ _=>rfl,fun _ h=> .inl h,fun b1 o v h=>?_,⟨rfl,rfl⟩⟩,hA⟩
 · refine .q id (ep+1) b off cap es hg' (by rw[mm ho'];rfl) hmax hl ?_ hz
   have:=lP.sl (F:=fun b1 o=>if b1=b∧o<off+es.length then w'.cell? ⟨b,o,none⟩else F b1 o) b off cap 1 es (fun i k=>(w'.cell? ⟨b,off+i+k,none⟩).getD (.bool false)) hl hz
    (fun i e k c h hc=>by
     obtain⟨u,k1,k2,k3⟩:=hq i e k c h hc
     have hk:k=0:=by
      have:=aj hc
      have:=hz e (aLd h)
      omega
     have hi:=aj h
     subst hk
     rw[Nat.mul_one]
     simp only[true_and]
     rw[if_pos (by omega),k1]
     exact⟨rfl,k2⟩)
    (fun i e k c h hc=>by
     obtain⟨u,k1,k2,k3⟩:=hq i e k c h hc
     simp only[k1,Option.getD_some]
     exact k3.mono hsub)
   exact this
 · split at h
   · rename_i k
     obtain⟨rfl,k⟩:=k
     exact .inr (.inl ⟨_,aLd hg',rfl⟩)
   · exact .inl h
theorem GZ{t u ty e e2:TypeId}{i:TypeInfo}(ht:P.underlying t=some (.slice e))(hu:P.underlying u=some (.slice e2))(hi:P.info? e=some i)
 {b off sLen sCap m c:Nat} {cur:Array Value} {bt:TypeId} (hb:w.heap[b]?=some (.cells cur bt (0,0))) {a:Option Addr} {news:List Value} (hs:Src w a news) (hl:news.length=m*i.size)
 (h1:∀v∈news,fM v=true) (hroom:sLen+m≤sCap) {r:List Value} (hr:bq cur.toList (off+sLen*i.size) news=some r):
 (Builtin.append_ #[t,u] ty #[.slice (some ⟨b,off,none⟩) sLen sCap,.slice a m c]).run P w= .ok (.slice (some ⟨b,off,none⟩) (sLen+m) sCap) (w.setRow b r.toArray):=by
 have hf:=qE (P:=P) (c:=c) hs hl
 have hfit:off+sLen*i.size+news.length≤cur.size:=by have:=(ez hr).1;simpa using this
 have hst:=run_storeCells_at P b (off+sLen*i.size) bt news 0 cur w hb (by simpa using hfit) (fun v hv=>by rw[yU];exact h1 v hv)
 unfold bq at hr
 rw[if_pos (by simpa using hfit)]at hr
 cases hr
 simp only[Nat.add_zero]at hst
 simp[Builtin.append_,run_underlying ht,run_underlying hu,sizeOf,typeInfo,hi,Builtin.lenOf,hroom,hf,iH,hst]
theorem G0{t u ty e e2:TypeId}{i:TypeInfo}{z:Value}(ht:P.underlying t=some (.slice e))(hu:P.underlying u=some (.slice e2))(hi:P.info? e=some i)(hz:i.zero=some z)
 {base:Option Addr} {sLen sCap m c:Nat} {olds news:List Value} (ho:Src w base olds) (hlo:olds.length=sLen*i.size) {a:Option Addr} (hs:Src w a news) (hl:news.length=m*i.size)
 (hg:sCap<sLen+m) (h63:((sLen+m:Nat):Int)≤9223372036854775807) (hfit:Builtin.nextslicecap (sLen+m) sCap*i.bytes≤281474976710656):
 ∃cap rest,(sLen+m≤cap∧cap≤9223372036854775807)∧(z.cells.size=i.size→rest.length=(cap-(sLen+m))*i.size)∧(Builtin.append_ #[t,u] ty #[.slice base sLen sCap,.slice a m c]).run P w=
  .ok (.slice (some ⟨w.heap.size,0,none⟩) (sLen+m) cap) (w.drew.alloc (.cells (olds++news++rest).toArray e)):=by
 refine⟨grownCap w (sLen+m) sCap e,(Builtin.zeroCells z.cells (grownCap w (sLen+m) sCap e-(sLen+m))).toList,⟨grownCap_ge w _ _ _,grownCap_le_maxLen w _ _ _ (by unfold maxLen;omega)⟩,fun h=>?_,?_⟩
 · simp[size_zeroCells,h]
 have h1:¬(sLen+m≤sCap):=by omega
 have h2:¬((sLen:Int)+(m:Int)>9223372036854775807):=by omega
 have hf1:=qE (P:=P) (w:=w.drew) (sz:=i.size) (m:=sLen) (c:=sCap) ho.drew hlo
 have hf2:=qE (P:=P) (w:=w.drew) (sz:=i.size) (m:=m) (c:=c) hs.drew hl
 have hq:(Question.appendCap (sLen+m) sCap e).forced=false:=rfl
 have h3:¬(281474976710656<Builtin.nextslicecap (sLen+m) sCap*i.bytes):=by omega
 simp[Builtin.append_,run_underlying ht,run_underlying hu,sizeOf,typeInfo,hi,Builtin.lenOf,h1,h2,h3,hq,hf1,hf2,zeroValue,hz,newRow,grownCap,Array.append_assoc]
 congr 2
 apply Array.ext'
 simp
theorem fB{y:T}(h:y.scalar=true):y.cells=[y]:=by
 cases y<;>simp[T.scalar]at h<;>rfl
theorem FW{F F':Fz}{u:Value}{y:T}(h:y.scalar=true)(hr:lP F u y):lP F' u y:=by
 cases hr<;>simp[T.scalar]at h<;>first | exact .int _ _ | exact .bool _ | exact .str _
theorem ak5{t u ty e e2:TypeId}{i:TypeInfo}{z:Value}(ht:P.underlying t=some (.slice e))(hu:P.underlying u=some (.slice e2))(hi:P.info? e=some i)(hz:i.zero=some z)
 (hzs:z.cells.size=i.size) (hby:i.bytes≤1024) (hs1:i.size=1) (hH:az F g H w) {id ep:Nat} {es:List T} {v:Value} {a:Option Addr} {c:Nat} {news:List Value} {y:T}
 (hx:bF F g (shp H) v (.q id ep es)) (hown:ER H id ep=true) (hy:y.scalar=true) (hrow:Row F g (shp H) i.size news [.t y]) (hsrc:Src w a news) (hl:es.length+1≤lim):
 ∃v' w' F' g',(Builtin.append_ #[t,u] ty #[v,.slice a 1 c]).run P w= .ok v' w'∧bF F' g' (shp (H.set id (.own (ep+1)))) v' (.q id (ep+1) (es++[y]))∧az F' g' (H.set id (.own (ep+1))) w'∧
  Ext F g w F' g' w'∧Aft g H g' (H.set id (.own (ep+1))):=by
 have ho:=An hown
 obtain⟨og,hg,hfit⟩:=hH.og ho
 have nl:news.length=1*i.size:=by simpa using hrow.len
 obtain⟨u0,hu0,hlf,hr0⟩:=hrow.cell 0 (.t y) 0 (.t y) rfl (by simp[D.cells,fB hy])
 have hn:news=[u0]:=by
  rw[hs1]at nl
  match news,nl,hu0 with
  | [x],_,h=>simp at h;rw[h]
 subst hn
 have hyT:∀F':Fz,lP F' u0 y:=fun F'=>by cases hr0 with | t _ _ h=>exact FW hy h
 have fits:∀n old,n≤lim→old<n→Builtin.nextslicecap n old*i.bytes≤281474976710656:=by
  intro n old hn ho
  refine growslice_fits ho ?_
  have:n*i.bytes≤lim*1024:=Nat.mul_le_mul hn hby
  unfold lim at this;omega
 have hzs':∀e∈es,e.cells.length=1→True:=fun _ _ _=>trivial
 -- a new block
 have grow:∀ {base:Option Addr} {olds:List Value},v= .slice base es.length es.length→Src w base olds→olds.length=es.length→(∀e∈es,e.cells.length=1)→
  (∀(k:Nat) x (q:Nat) d,es[k]?=some x→x.cells[q]?=some d→∃u,olds[k+q]?=some u∧fM u=true∧lP F u d)→
  ∃v' w' F' g',(Builtin.append_ #[t,u] ty #[v,.slice a 1 c]).run P w= .ok v' w'∧bF F' g' (shp (H.set id (.own (ep+1)))) v' (.q id (ep+1) (es++[y]))∧az F' g' (H.set id (.own (ep+1))) w'∧
   Ext F g w F' g' w'∧Aft g H g' (H.set id (.own (ep+1))):=by
  intro base olds hv hso hlo hzz hol
  obtain⟨cap,rest,⟨hc1,hc2⟩,hrest,hrun⟩:=G0 (P:=P) (w:=w) (ty:=ty) (c:=c) ht hu hi hz hso (sLen:=es.length) (sCap:=es.length) (by rw[hs1,hlo,Nat.mul_one]) hsrc nl (by omega)
   (by unfold lim at hl;omega) (fits _ _ hl (by omega))
  have hrl:rest.length=cap-(es.length+1):=by rw[hrest hzs,hs1,Nat.mul_one]
  have hsz:(olds++[u0]++rest).toArray.size=0+cap:=by simp[hlo,hrl];omega
  have hcell:(w.drew.alloc (.cells (olds++[u0]++rest).toArray e)).heap[w.heap.size]?=some (.cells (olds++[u0]++rest).toArray e (0,0)):=mI w.drew _
  have hat:∀(q:Nat),(w.drew.alloc (.cells (olds++[u0]++rest).toArray e)).cell? ⟨w.heap.size,q,none⟩=(olds++[u0]++rest)[q]?:=by
   intro q
   simp only[World.cell?,hcell]
   simp
  have hold:=gP w.drew (.cells (olds++[u0]++rest).toArray e)
  obtain⟨F',g',q1,q2,q3,q4⟩:=PT hH hg ho (w':=w.drew.alloc (.cells (olds++[u0]++rest).toArray e)) (b:=w.heap.size) (off:=0) (cap:=cap) (es:=es++[y]) hcell hsz (by omega) (by simp;omega)
   (fun x hx=>by
    rcases List.mem_append.1 hx with h | h
    · exact hzz x h
    · simp at h;subst h;rw[fB hy];rfl)
   (fun k x q d hx hd=>by
    by_cases hk:k<es.length
    · rw[aLg hk]at hx
      obtain⟨u,k1,k2,k3⟩:=hol k x q d hx hd
      refine⟨u,?_,k2,k3⟩
      rw[Nat.zero_add,hat,List.append_assoc,aLg (aj k1)]
      exact k1
    · have hk2:k=es.length:=by have:=aj hx;simp at this;omega
      subst hk2
      simp at hx
      subst hx
      rw[fB hy]at hd
      have hq:q=0:=by have:=aj hd;simp at this;omega
      subst hq
      simp at hd
      subst hd
      refine⟨u0,?_,hlf,hyT F⟩
      rw[Nat.zero_add,Nat.add_zero,hat,List.append_assoc,aLh (by omega),hlo,Nat.sub_self]
      rfl)
   (fun o v h=>by have:=hH.ltF h;omega) (.inr (aLs _)) (fun b1 h1 _=>hold b1 h1)
   (fun b1 o v h _=>by rw[oT (hold b1 (hH.ltF h))];exact hH.agree b1 o v h) (by rw[kq];exact Nat.le_succ _) ⟨rfl,rfl⟩
  refine⟨_,_,F',g',by rw[hv];exact hrun,?_,q2,q3,q4⟩
  simpa using q1
 rcases hx.XA hown with⟨b,off,cap,hg2,_,hmax,hle,hr,hzz,hv⟩ | ⟨rfl,a0,hv⟩
 · obtain⟨hqc,hqf⟩:=XJ hH hr rfl hzz
   rw[hg]at hg2
   cases hg2
   obtain⟨b',cur,bt,e',hb,hc,h1,h2,h3,h4⟩:=hfit
   cases hb
   obtain⟨he,hs⟩:=L3 h1 (by omega) (by omega)
   subst he
   by_cases hroom:es.length+1≤cap
   · -- behind the window
     obtain⟨r,hrr⟩:∃r,bq cur.toList (off+es.length*i.size) [u0]=some r:=by
      unfold bq
      rw[if_pos (by simp[hs1];omega)];exact⟨_,rfl⟩
     have hrun:=GZ (P:=P) (w:=w) (ty:=ty) (c:=c) ht hu hi hc hsrc nl (fun x hx=>by simp at hx;subst hx;exact hlf) (sLen:=es.length) (sCap:=cap) hroom hrr
     rw[hs1,Nat.mul_one]at hrr
     obtain⟨f1,f2,f3⟩:=ez hrr
     have hheap:(w.setRow b r.toArray).heap[b]?=some (.cells r.toArray bt (0,0)):=setRow_heap w b cur _ bt _ hc
     have hat:∀(q:Nat),(w.setRow b r.toArray).cell? ⟨b,q,none⟩=r[q]?:=by
      intro q
      simp only[World.cell?,hheap]
      simp
     have hcur:∀(q:Nat),w.cell? ⟨b,q,none⟩=cur[q]?:=by
      intro q
      simp only[World.cell?,hc]
      simp
     have hsame:∀q,q≠off+es.length→r[q]?=cur[q]?:=by
      intro q hq
      rw[f3 q,if_neg (by simp;omega)]
      simp
     have hnew:r[off+es.length]?=some u0:=by
      rw[f3 (off+es.length),if_pos (by simp)]
      simp
     have hrl:r.toArray.size=off+cap:=by
      have:r.length=cur.size:=by simpa using f2
      simp[this];omega
     have hoth:∀b1,b1<w.heap.size→(⟨some b,room (off+es.length) (off+cap)⟩:OG).blk≠some b1→(w.setRow b r.toArray).heap[b1]?=w.heap[b1]?:=fun b1 _ hne=>setRow_other w b b1 _ (fun e=>hne (by simp[e]))
     obtain⟨F',g',q1,q2,q3,q4⟩:=PT hH hg ho (w':=w.setRow b r.toArray) (b:=b) (off:=off) (cap:=cap) (es:=es++[y]) hheap hrl hmax (by simp;omega)
      (fun x hx=>by
       rcases List.mem_append.1 hx with h | h
       · exact hzz x h
       · simp at h;subst h;rw[fB hy];rfl)
      (fun k x q d hx hd=>by
       by_cases hk:k<es.length
       · rw[aLg hk]at hx
         have hq:q=0:=by
          have:=aj hd
          have:=hzz x (aLd hx)
          omega
         subst hq
         obtain⟨u,k1,k2,k3⟩:=hqc k x 0 d hx hd
         refine⟨u,?_,k2,k3⟩
         rw[hcur]at k1
         rw[hat,hsame _ (by omega)]
         exact k1
       · have hk2:k=es.length:=by have:=aj hx;simp at this;omega
         subst hk2
         simp at hx
         subst hx
         rw[fB hy]at hd
         have hq:q=0:=by have:=aj hd;simp at this;omega
         subst hq
         simp at hd
         subst hd
         exact⟨u0,by rw[Nat.add_zero,hat];exact hnew,hlf,hyT F⟩)
      (fun o v h=>by
       have l1:=h4 o v h
       refine⟨by simp;omega,?_⟩
       have:=hH.agree b o v h
       rw[hcur]at this
       rw[hat,hsame _ (by omega)];exact this) (.inl rfl) hoth
      (fun b1 o v h hb1=>by
       cases hb1
       have l1:=h4 o v h
       have:=hH.agree b o v h
       rw[hcur]at this
       rw[hat,hsame _ (by omega)];exact this) (by rw[setRow_size];exact aLs _) ⟨rfl,rfl⟩
     refine⟨_,_,F',g',by rw[hv];exact hrun,?_,q2,q3,q4⟩
     simpa using q1
   · have hcap:cap=es.length:=by omega
     subst hcap
     have hol:∀(k:Nat),k<es.length→∃u,w.cell? ⟨b,off+k,none⟩=some u:=fun k hk=>by
      obtain⟨u,hu⟩:=hqf k hk
      exact⟨u,hH.agree _ _ _ hu⟩
     have hval:∀(k:Nat),k<es.length→w.cell? ⟨b,off+k,none⟩=cur[off+k]?:=fun k _=>by simp only[World.cell?,hc];simp
     have hdl:((cur.toList.drop off).take es.length).length=es.length:=by simp;omega
     have hdg:∀(k:Nat),k<es.length→((cur.toList.drop off).take es.length)[k]?=cur[off+k]?:=fun k hk=>by
      rw[aLo,if_pos hk,List.getElem?_drop];simp
     refine grow hv (olds:=(cur.toList.drop off).take es.length) (.inr ⟨b,off,rfl,fun j v hj=>?_⟩) hdl hzz (fun k x q d hx hd=>?_)
     · have hjl:j<es.length:=by have:=aj hj;omega
       rw[hdg j hjl]at hj
       rw[hval j hjl];exact hj
     · have hkl:=aj hx
       have hq:q=0:=by
        have:=aj hd
        have:=hzz x (aLd hx)
        omega
       subst hq
       obtain⟨u,k1,k2,k3⟩:=hqc k x 0 d hx hd
       refine⟨u,?_,k2,k3⟩
       rw[Nat.add_zero]at k1 ⊢
       rw[hdg k hkl,←hval k hkl];exact k1
 · exact grow hv (.inl rfl) rfl (fun x hx=>by simp at hx) (fun k x q d hx _=>by simp at hx)
end
end Go.Ev
