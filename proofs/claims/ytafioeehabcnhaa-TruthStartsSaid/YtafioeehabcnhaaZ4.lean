/- Parts of the proof: see the text that holds the theorem. -/
import Derived.Test.YtafioeehabcnhaaZ3
set_option linter.all false
set_option maxRecDepth 100000
namespace Go.Ev
open Go
variable [Lib] [bq] [bu] [dw] [dr]
section
variable {bm : bP} (hm : bm.ok) {t : Int} (i : Nat) {H : ab} {io iB iO n a fbi tl : Nat} {es : List D} {whr : List Wh} (e1 : H[iO]? = some (.box [.ref io 0 n])) (e2 : H[io]? = some (.arr 2 false 0 es)) (e3 : es.length = n)
 (e4:es[i]?=some (.agg [.ref a 0 tl,.ref fbi 0 whr.length])) (e5:H[fbi]?=some (.arr 2 false 0 (whs whr))) (e6:H[iB]?=some (.box (af bm))) (hi:i<n) (hn:n≤1000000) (hl:whr.length≤1000000)
include hm e1 e2 e3 e4 e5 e6 hi hn hl
end
theorem Rp.app{H:ab}{id:Nat}{es:List D}{fa fb:Nat→Nat}{out:List World}(hr:Rp H id es fa fb out)(t:ab):Rp (H++t) id es fa fb out:=
 ⟨by rw[j5 (oP hr.arr)];exact hr.arr,hr.len,hr.el,fun j hj=>by rw[j5 (oP (hr.ha j hj))];exact hr.ha j hj,fun j hj=>by rw[j5 (oP (hr.hb j hj))];exact hr.hb j hj,hr.na,hr.nb,hr.nab,hr.nbb⟩
structure SlH(H:ab)(b:List World)(bm:bP)(iB iO io:Nat)(es:List D)(fa fb:Nat→Nat)(A:List Nat)(O:List World):Prop where
 h1:H[1]?=some (.box [.ref 3 0 b.length])
 h2:H[2]?=some (.box [.nil])
 hB:H[iB]?=some (.box (af bm))
 hO:H[iO]?=some (.box [.ref io 0 O.length])
 rp:Rp H io es fa fb O
 ar:∀i∈A,∃sz pin ep es,H[i]?=some (.arr sz pin ep es)
 nA:∀i∈A,∀j,j<O.length→i≠fb j
 eA:cm H 7 (.ref 3 0 b.length)=A
 fr:frz H 7 (.ref 3 0 b.length)=some (.sl (b.map World.e))
theorem SlH.step{H:ab}{b:List World}{bm:bP}{iB iO io:Nat}{es:List D}{fa fb:Nat→Nat}{A:List Nat}{O:List World}(h:SlH H b bm iB iO io es fa fb A O){i:Nat}(hi:i<O.length)(x:World)(ht:(nth O i).tags=x.tags)
 (hw:x.whr.length=(nth O i).whr.length) (o:Obj):SlH (H.set (fb i) (.arr 2 false 0 (whs x.whr))++[o]) b bm iB iO io es fa fb A (O.set i x):=by
 have hb:=h.rp.hb i hi
 have nb:∀ {k:Nat} {cs:List D},H[k]?=some (.box cs)→(H.set (fb i) (.arr 2 false 0 (whs x.whr))++[o])[k]?=some (.box cs):=fun{k cs} hk=>by
  have ne:fb i≠k:=fun e=>by rw[e,hk]at hb;cases hb
  rw[j5 (by rw[List.length_set];exact oP hk),hX ne];exact hk
 have na:∀k∈A,(H.set (fb i) (.arr 2 false 0 (whs x.whr))++[o])[k]?=H[k]?:=fun k hk=>by
  obtain⟨sz,pin,ep,es',e⟩:=h.ar k hk
  rw[j5 (by rw[List.length_set];exact oP e),hX (fun e=>h.nA k hk i hi e.symm)]
 have fc:=rY (H:=H) (H':=H.set (fb i) (.arr 2 false 0 (whs x.whr))++[o]) 7 (.ref 3 0 b.length) (fun k hk=>by
  rw[h.eA]at hk
  obtain⟨sz,pin,ep,es',e⟩:=h.ar k hk
  exact⟨sz,pin,pin,ep,es',e,by rw[na k hk];exact e⟩)
 refine⟨nb h.h1,nb h.h2,nb h.hB,by rw[List.length_set];exact nb h.hO,(h.rp.merge hi x ht hw).app _,fun k hk=>?_,by rw[List.length_set];exact h.nA,by rw[fc.2];exact h.eA,by rw[fc.1];exact h.fr⟩
 obtain⟨sz,pin,ep,es',e⟩:=h.ar k hk
 exact⟨sz,pin,ep,es',by rw[na k hk];exact e⟩
def SlE(b:List World)(H:ab):Prop:=H[2]?=some (.box [.ref 3 0 b.length])∧frz H 7 (.ref 3 0 b.length)=some (.sl (b.map World.e))
theorem SlH.late{H:ab}{b:List World}{bm:bP}{iB iO io:Nat}{es:List D}{fa fb:Nat→Nat}{A:List Nat}{O:List World}(h:SlH H b bm iB iO io es fa fb A O)(o:Obj):SlE b (H.set 2 (.box [.ref 3 0 b.length])++[o]):=by
 have l2:=oP h.h2
 have fc:=rY (H:=H) (H':=H.set 2 (.box [.ref 3 0 b.length])++[o]) 7 (.ref 3 0 b.length) (fun k hk=>by
  rw[h.eA]at hk
  obtain⟨sz,pin,ep,es',e⟩:=h.ar k hk
  have ne:2≠k:=fun e2=>by rw[← e2,h.h2]at e;cases e
  exact⟨sz,pin,pin,ep,es',e,by rw[j5 (by rw[List.length_set];exact oP e),hX ne];exact e⟩)
 exact⟨by rw[j5 (by rw[List.length_set];exact l2),pW l2],by rw[fc.1];exact h.fr⟩
end Go.Ev
namespace Go.Ev
open Go
variable [Lib] [bq] [bu] [dw] [dr]
end Go.Ev
namespace Go.Ev
open Go
variable [Lib] [bq] [bu] [dw] [dr] [fe] [c9] [c8] [ew] [dU] [cC] [cZ] [fM] [fN] [kB] [iX]
theorem we(l:List Place)(hl:l.length≤1000000):br 0 N.ak [.t (.sl (l.map Place.e))] []=some (.t (.sl (l.map Place.e)),[]):=by
 refine aO K.bH rfl ?_
 by_cases h0:l=[]
 · subst h0
   simp only[List.map_nil]
   simp (disch:=omega) only[go_sem,K.ak,↓reduceIte,List.map_nil,Nat.reduceAdd,Nat.reduceSub]
 · have e:=fun H=>nH H (l.map Place.e) (by simpa using h0)
   simp (disch:=omega) only[go_sem,K.ak,↓reduceIte,e,Nat.reduceAdd,Nat.reduceSub]
end Go.Ev
namespace Go.Ev
open Go
variable [Lib] [bq] [bu] [dw] [dr] [fe] [c9] [c8] [ew] [dU] [cC] [cZ]
def AW(P:Wh→Prop)(ws:List World):Prop:=∀x∈ws,∀w∈x.whr,P w
structure Kept(m:bP)(T:Int)(P:Wh→Prop):Prop where
 see:∀w l a b,P w→b≤T→P (SS m w l a b).1
 abs:∀w l a b bl,P w→b≤T→P (SV m w l a b bl).1
 raise:∀w t,P w→t≤T→P (yc w t).1
 join:∀a b,P a→P b→a.frm.length=b.frm.length→P (yd a b).1
theorem AW.set{P:Wh→Prop}{x:World}(h:∀w∈x.whr,P w)(tag:Int){w:Wh}(hw:(dT x.tags tag).toNat<x.whr.length→P w):∀y∈(OQ tag x w).whr,P y:=by
 intro y hy
 simp only[OQ]at hy
 by_cases c:(dT x.tags tag).toNat<x.whr.length
 · rcases List.mem_or_eq_of_mem_set hy with a | rfl
   · exact h y a
   · exact hw c
 · rw[List.set_eq_of_length_le (by omega)]at hy;exact h y hy
end Go.Ev
namespace Go.Ev
open Go
variable [Lib] [bq] [bu] [dw]
end Go.Ev
namespace Go.Ev
open Go
variable [Lib] [bq] [bu] [dw] [dr] [fe] [c9] [c8] [ew] [dU] [cC] [cZ] [fM] [fN] [kB] [iX]
structure SlF(bm:bP)(w:Wh)(t:Int):Prop where
 ln:(Bb bm w t).frm.length=bm.places.length
 bd:bnd (Bb bm w t).frm
 cl:clW bm t none (Bb bm w t).frm
 le:∀j,j<bm.places.length→nth (Bb bm w t).frm j≤if t<nth w.frm j then 1099511627776 else nth w.frm j
theorem Mr{d:aB}(hd:d.bT)(n:Nat)(hn:n≤1000000):
 ∃(l:List Int) (e:aB),br 0 N.bw [.bp 0 0,I n] [d.obj]=some (.t (tL l),[e.obj])∧e.bT∧l.length≤n∧qI l n=true:=
 ⟨_,_,E6 d n hn hd,aB.ky hd n,d.oJ n,pY d n⟩
section
variable (e : aB) {m bm : bP} (b c : Bel) (t : Int) (l : List Int)
end
end Go.Ev
namespace Go.Ev.N
def aD:Nat:=334
def wO:Nat:=335
def wP:Nat:=336
def cK:Nat:=337
def aM:Nat:=338
def aU:Nat:=339
def aR:Nat:=340
def cj:Nat:=341
def dM:Nat:=342
def dQ:Nat:=343
def dR:Nat:=344
def OW:Nat:=345
def zx:Nat:=346
def Gy:Nat:=347
def Ja:Nat:=348
def ez:Nat:=349
def aX:Nat:=350
def bD:Nat:=351
def bW:Nat:=352
def cg:Nat:=353
def b7:Nat:=354
def bz:Nat:=355
def du:Nat:=356
def dv:Nat:=357
def cD:Nat:=358
def cE:Nat:=359
def cL:Nat:=360
def eB:Nat:=361
def Gz:Nat:=362
def Bc:Nat:=363
def GA:Nat:=364
def Jb:Nat:=365
def Jc:Nat:=366
def Jd:Nat:=367
def Je:Nat:=368
def aK:Nat:=369
def ae:Nat:=370
def aj:Nat:=371
def cF:Nat:=372
def au:Nat:=373
def cG:Nat:=374
def cH:Nat:=375
def GB:Nat:=376
def GC:Nat:=377
def zy:Nat:=378
def ah:Nat:=379
def ay:Nat:=380
def bL:Nat:=381
def Bd:Nat:=382
def bX:Nat:=383
end Go.Ev.N
namespace Go.Ev.K
open Go.Ev
def dN:C:=(.seq (.ite [m v15,u (.bin .gtr l0 (.i 0))] [] 0 .skip (.exit 0)) (.seq (.blk 1 (.reg [m v13,m v4,f 0 v7,g l0,u (.ln l0),u (.bin .add l0 (.i 1)),u (.ca N.az 0 [] [.l 4,.l 0]),u (.bs [.l 0] 1),u (.app l7 l0 true 1),m v14,m v15,m v4,u (.ca N.az 0 [] [.l 0,.i 2]),u (.bin .add l2 l0),u (.bs [.l 0] 1),u (.app l5 l0 true 1),w 13 (.mv l7),w 14 (.mv l1)] [])) (.reg [m v15,u (.bin .sub l0 (.i 1)),w 15 (.mv l0)] [])))
def cP:C:= .loop true [0,1,3,5,6,16,17,18,19] K.dN
def aD:Fn:={ nargs:=3,vars:=[0,1,2,6,7,8,9,10,11,12,13,14,15,16,17,18,19,20,21,22],body:=(.seq (.reg [w 3 (.mv (.b false))] []) (.seq (.ite [m v0,u (.ca N.dn 0 [] [.l 0]),u (.un .not l0),m l0,y 0 false (.mv v1),y 1 false (.ln l0),y 2 false (.bin .gtr l0 (.i 10)),u (.pk l3 (.b true) l0),m l0,y 0 false (.mv v1),y 1 false (.ln l0),y 2 false (.bin .gtr l0 (.i 1)),y 3 false (.mv l0),y 0 true (.mv v1),y 1 true (.ia l0 (.i 0) 1),y 2 true (.ld l0 1 false),y 3 true (.ln l0),y 4 true (.bin .gtr l0 (.i 30)),y 5 true (.mv l0),y 0 false (.mv v1),y 1 false (.ia l0 (.i 1) 1),y 2 false (.ld l0 1 false),y 3 false (.ln l0),y 4 false (.bin .gtr l0 (.i 30)),y 11 true (.pk l5 (.b true) l0),y 16 false (.pk (.l 12) l0 (.b false)),u (.pk (.l 17) (.b true) l0)] [] 0 (.seq (.reg [u (.ca N.cK 0 [] []),w 3 (.mv l0)] []) .ret) .skip) (.seq (.reg [m v0,u (.ca N.dY 0 [] [.l 0]),w 4 (.mv l0)] []) (.seq (.reg [w 5 (.mv (.c (.nil))),w 6 (.mv (.c (.nil)))] []) (.seq (.ite [m v1,u (.ln l0),u (.bin .gtr l0 (.i 1))] [] 0 (.reg [m v1,a 1 l0 (.i 0),g l0,m v1,a 1 l0 (.i 1),g l0,w 5 (.mv l3),w 6 (.mv l1)] []) .skip) (.seq (.reg [m v4,u (.ca N.bh 0 [] [.l 0]),w 7 (.al [.nil,.nil] []),u (.st l0 l1 2 [])] []) (.seq (.reg [m v4,h 2 v7,u (.ca N.aM 1 [] [.l 1,.l 0]),w 8 (.mv l0)] []) (.seq (.reg [h 2 v7,m v8,m v5,m v6,m v2,u (.ca N.aU 0 [] [.l 4,.l 3,.l 2,.l 1,.l 0]),m l0,u (.ex l0 0),u (.ex l1 1),w 9 (.al [.nil,.nil,.t (.int .i64 (0)),.nil,.nil,.nil,.nil,.nil,.nil] []),u (.st l0 l2 9 []),w 10 (.mv l2)] []) (.seq (.reg [h 2 v7,m v8,m v5,m v6,m v2,u (.ca N.aR 0 [] [.l 4,.l 3,.l 2,.l 1,.l 0]),m l0,u (.ex l0 0),u (.ex l1 1),w 11 (.al [.nil,.nil,.t (.int .i64 (0)),.nil,.nil,.nil,.nil,.nil,.nil] []),u (.st l0 l2 9 []),w 12 (.mv l2)] []) (.seq (.reg [w 13 (.nw 1),w 14 (.nw 1)] []) (.seq (.seq (.reg [m v4,u (.ca N.az 0 [] [.l 0,.i 14]),w 15 (.mv l0)] []) (.blk 0 K.cP)) (.seq (.ite [m v4,u (.ca N.a8 0 [] [.l 0,.i 4])] [] 0 (.reg [m v8,u (.bs [.i 0] 1),m v4,u (.bs [.i 0,.i 601] 1),u (.ca N.aW 0 [] [.l 1,.l 0]),u (.bd [.nil,.t (.int .i64 (0)),.t (.int .i64 (0)),.t (.int .i64 (0))] [(0,1,.l 3),(1,1,.l 0)]),u (.bs [.l 0] 4),u (.app l6 l0 true 4),w 8 (.mv l0)] []) .skip) (.seq (.reg [w 16 (.al [.nil,.nil,.t (.int .i64 (0)),.nil,.nil,.nil,.nil,.nil,.nil] []),h 2 v7,m v8,m v13,m v14,m v2,u (.ca N.dC 0 [] [.l 0,.i 1000]),u (.ca N.aU 0 [] [.l 5,.l 4,.l 3,.l 2,.l 0]),m l0,u (.ex l0 0),u (.ex l1 1),u (.st l10 l1 9 []),w 17 (.mv l1)] [(0,7),(0,8),(1,7)]) (.seq (.reg [w 18 (.al [.nil,.nil,.t (.int .i64 (0)),.nil,.nil,.nil,.nil,.nil,.nil] []),h 2 v7,m v8,m v13,m v14,m v2,u (.ca N.dC 0 [] [.l 0,.i 1000]),u (.ca N.aR 0 [] [.l 5,.l 4,.l 3,.l 2,.l 0]),m l0,u (.ex l0 0),u (.ex l1 1),u (.st l10 l1 9 []),w 19 (.mv l1)] [(0,7),(0,8),(1,7)]) (.seq (.reg [u (.ca N.cK 0 [] []),m l0,y 0 true (.ld v9 9 true),y 1 true (.ld v11 9 true),y 2 true (.mv v10),y 3 true (.mv v12),y 4 true (.ca N.cj 0 [] [.l 3,.l 2,.l 1,.l 0]),u (.pk l5 l0 (.b false)),m l0,y 0 true (.ld v16 9 true),y 1 true (.ld v18 9 true),y 2 true (.mv v17),y 3 true (.mv v19),y 4 true (.ca N.cj 0 [] [.l 3,.l 2,.l 1,.l 0]),u (.pk l5 l0 (.b false)),w 3 (.mv l0)] []) .ret))))))))))))))),res:=[(3,none)]}
def cK:Fn:={ nargs:=0,vars:=[0,1,2,3,4,6,7,8,10,11],body:=(.seq (.reg [w 0 (.mv (.b false))] []) (.seq (.reg [u (.ca N.ez 0 [] []),u (.bs [.i 1] 1),u (.bd [.nil,.t (.int .i64 (0)),.t (.int .i64 (0)),.t (.int .i64 (0))] [(0,1,.l 0),(1,1,.i 10)]),u (.bs [.l 0] 4),u (.bs [.i 0] 1),u (.bs [.i 9] 1),u (.ca N.aU 0 [] [.l 5,.l 2,.l 1,.l 0,.i 0]),m l0,u (.ex l0 0),u (.ex l1 1),w 1 (.al [.nil,.nil,.t (.int .i64 (0)),.nil,.nil,.nil,.nil,.nil,.nil] []),u (.st l0 l2 9 []),w 2 (.mv l2)] []) (.seq (.reg [h 9 v1,u (.ca N.dM 0 [] [.l 0,.i 0,.i 0,.i 0]),m l0,u (.ex l0 0),u (.ex l1 1),u (.st v1 l1 9 []),w 3 (.mv l1)] []) (.seq (.reg [h 9 v1,u (.ca N.dQ 0 [] [.l 0,.i 6]),m l0,u (.ex l0 0),u (.ex l1 1),u (.st v1 l1 9 []),w 4 (.mv l1)] []) (.seq (.reg [h 9 v1,u (.ca N.dR 0 [] [.l 0,.i 0,.i 0,.i 0]),m l0,u (.ex l0 0),u (.ex l1 1),u (.ex l2 2),u (.al [.nil,.nil,.t (.int .i64 (0)),.nil,.nil,.nil,.nil,.nil,.nil] []),w 5 (.al [.t (.int .i64 (0)),.t (.int .i64 (0)),.t (.int .i64 (0)),.nil] []),u (.st l1 l4 9 []),u (.st l1 l4 4 []),w 6 (.mv l4)] []) (.seq (.reg [h 9 v1,u (.ca N.dQ 0 [] [.l 0,.i 4]),m l0,u (.ex l0 0),u (.ex l1 1),u (.st v1 l1 9 []),w 7 (.mv l1)] []) (.seq (.reg [h 9 v1,u (.ca N.dR 0 [] [.l 0,.i 0,.i 0,.i 0]),m l0,u (.ex l0 0),u (.ex l1 1),u (.ex l2 2),u (.al [.nil,.nil,.t (.int .i64 (0)),.nil,.nil,.nil,.nil,.nil,.nil] []),w 8 (.al [.t (.int .i64 (0)),.t (.int .i64 (0)),.t (.int .i64 (0)),.nil] []),u (.st l1 l4 9 []),u (.st l1 l4 4 []),w 9 (.mv l4)] []) (.seq (.reg [m v2,u (.bin .eql l0 (.i 0)),m l0,y 0 true (.mv v3),y 1 true (.bin .eql l0 (.i 0)),u (.pk l2 l0 (.b false)),m l0,y 0 true (.mv v4),y 1 true (.bin .eql l0 (.i 0)),u (.pk l2 l0 (.b false)),m l0,y 0 true (.mv v6),y 1 true (.bin .eql l0 (.i 0)),u (.pk l2 l0 (.b false)),m l0,y 0 true (.mv v7),y 1 true (.bin .eql l0 (.i 0)),u (.pk l2 l0 (.b false)),m l0,y 0 true (.mv v9),y 1 true (.bin .eql l0 (.i 0)),u (.pk l2 l0 (.b false)),m l0,y 0 true (.fa v1 3),y 1 true (.ld l0 1 false),y 2 true (.ln l0),y 3 true (.bin .eql l0 (.i 1)),u (.pk l4 l0 (.b false)),m l0,y 0 true (.fa v1 3),y 1 true (.ld l0 1 false),y 2 true (.ia l0 (.i 0) 3),y 3 true (.fa l0 0),y 4 true (.ld l0 1 false),y 5 true (.bin .eql l0 (.i 1)),u (.pk l6 l0 (.b false)),m l0,y 0 true (.fa v1 3),y 1 true (.ld l0 1 false),y 2 true (.ia l0 (.i 0) 3),y 3 true (.fa l0 1),y 4 true (.ld l0 1 false),y 5 true (.bin .eql l0 (.i (-1))),u (.pk l6 l0 (.b false)),m l0,y 0 true (.fa v5 3),y 1 true (.ld l0 1 false),y 2 true (.ln l0),y 3 true (.bin .eql l0 (.i 0)),u (.pk l4 l0 (.b false)),m l0,y 0 true (.fa v8 3),y 1 true (.ld l0 1 false),y 2 true (.ln l0),y 3 true (.bin .eql l0 (.i 1)),u (.pk l4 l0 (.b false)),m l0,y 0 true (.fa v8 3),y 1 true (.ld l0 1 false),y 2 true (.ia l0 (.i 0) 1),y 3 true (.ld l0 1 false),y 4 true (.bin .eql l0 (.i 9)),u (.pk l5 l0 (.b false)),m l0,y 0 true (.fa v8 2),y 1 true (.ld l0 1 false),y 2 true (.bin .eql l0 (.i 10)),u (.pk l3 l0 (.b false)),w 0 (.mv l0)] []) .ret)))))))),res:=[(0,none)]}
def bg:C:=(.seq (.ite [m v5,u (.bin .gtr l0 (.i 0))] [] 0 .skip (.exit 0)) (.seq (.blk 1 (.seq (.reg [m v0,f 0 v2,g l0,u (.ln l0),u (.ca N.bw 0 [] [.l 3,.l 0]),m v0,u (.bs [.i 9,.i 29,.i 4] 1),u (.ca N.aW 0 [] [.l 1,.l 0]),u (.bin .add (.i 1) l0),m v0,u (.ca N.az 0 [] [.l 0,.i 3]),m v0,u (.bs [.i 0,.i 1,.i 5] 1),u (.ca N.aW 0 [] [.l 1,.l 0]),u (.bd [.nil,.t (.int .i64 (0)),.t (.int .i64 (0)),.t (.int .i64 (0))] [(0,1,.l 9),(1,1,.l 5),(2,1,.l 3),(3,1,.l 0)]),w 6 (.al [.nil,.t (.int .i64 (0)),.t (.int .i64 (0)),.t (.int .i64 (0))] []),u (.st l0 l1 4 [])] []) (.seq (.ite [f 0 v6,g l0,u (.ln l0),u (.bin .eql l0 (.i 0))] [] 0 (.reg [m v0,f 0 v2,g l0,u (.ln l0),u (.ca N.az 0 [] [.l 3,.l 0]),u (.bs [.l 0] 1),f 0 v6,u (.st l0 l1 1 [])] []) .skip) (.reg [m v4,h 4 v6,u (.bs [.l 0] 4),u (.app l2 l0 true 4),w 4 (.mv l0)] [])))) (.reg [m v5,u (.bin .sub l0 (.i 1)),w 5 (.mv l0)] [])))
def fG:C:= .loop true [1,3,6] K.bg
def aM:Fn:={ nargs:=2,vars:=[0,1,3,4,5,6,7],body:=(.seq (.reg [w 2 (.bx v1 2),w 3 (.mv (.c (.nil)))] []) (.seq (.reg [w 4 (.nw 4)] []) (.seq (.seq (.reg [m v0,u (.ca N.az 0 [] [.l 0,.i 4]),w 5 (.mv l0)] []) (.blk 0 K.fG)) (.seq (.reg [m v4,w 3 (.mv l0)] []) .ret)))),res:=[(3,none)]}
def gg:C:=(.its [u (.bin .lss v13 v12)] [] 0 .skip (.exit 1) (.seq (.blk 2 (.seq (.reg [a 1 v11 v13,g l0,w 10 (.mv l0)] []) (.reg [f 3 v9,g l0,m v10,u (.bd [.t (.int .i64 (0)),.t (.int .i64 (0)),.t (.int .i64 (0))] [(0,1,.l 0),(1,1,.i (-1))]),u (.bs [.l 0] 3),u (.app l3 l0 true 3),f 3 v9,u (.st l0 l1 1 [])] []))) (.reg [u (.bin .add v13 (.i 1)),w 13 (.mv l0)] [])))
def j6:C:= .loop true [0,2,3,4,5,7,10,14,15] K.gg
def gh:C:=(.its [u (.bin .lss v15 v14)] [] 0 .skip (.exit 3) (.seq (.blk 4 (.reg [f 6 v9,g l0,u (.bs [.i (-1)] 1),u (.app l1 l0 true 1),f 7 v9,g l0,u (.bs [.i (-1)] 1),u (.app l1 l0 true 1),f 8 v9,g l0,m v8,u (.mkt l0 (.int .i64 (0)) 1),u (.bs [.l 0] 1),u (.app l3 l0 true 1),f 6 v9,u (.st l0 l11 1 []),f 7 v9,u (.st l0 l9 1 []),f 8 v9,u (.st l0 l5 1 [])] [(2,2),(5,0),(6,0),(9,0),(9,4),(11,0),(11,4),(12,0),(12,4)])) (.reg [u (.bin .add v15 (.i 1)),w 15 (.mv l0)] [])))
def j7:C:= .loop true [0,1,2,3,4,5,7,10,11,12,13] K.gh
def aU:Fn:={ nargs:=5,vars:=[0,1,2,3,4,5,10,11,12,13,15,55,56,57,70,71],body:=(.seq (.reg [w 5 (.bx v0 2),w 6 (.al [.nil,.nil,.t (.int .i64 (0)),.nil,.nil,.nil,.nil,.nil,.nil] []),w 7 (.mv (.i 0))] []) (.seq (.reg [m v2,u (.ln l0),w 8 (.mv l0)] []) (.seq (.blk 0 (.ite [h 2 v5,m v1,u (.ca N.aX 0 [] [.l 1,.l 0]),u (.un .not l0),m l0,y 0 false (.mv v3),y 1 false (.ln l0),y 2 false (.mv v8),y 3 false (.bin .neq l1 l0),u (.pk l4 (.b true) l0),m l0,y 0 false (.mv v8),y 1 false (.ca N.ba 0 [] [.l 0,.i 1,.i 12]),y 2 false (.un .not l0),u (.pk l3 (.b true) l0),m l0] [] 0 (.seq (.reg [u (.bd [.nil,.nil,.t (.int .i64 (0)),.nil,.nil,.nil,.nil,.nil,.nil] []),u (.st v6 l0 9 []),w 7 (.mv (.i 6))] []) .ret) (.ite [m v2,u (.mf N.bD [.v 5]),u (.ca N.av 0 [] [.l 1,.l 0]),m l0] [] 0 (.seq (.reg [u (.bd [.nil,.nil,.t (.int .i64 (0)),.nil,.nil,.nil,.nil,.nil,.nil] []),u (.st v6 l0 9 []),w 7 (.mv (.i 3))] []) .ret) (.ite [m v3,u (.ca N.bW 0 [] [.l 0]),u (.un .not l0),m l0] [] 0 (.seq (.reg [u (.bd [.nil,.nil,.t (.int .i64 (0)),.nil,.nil,.nil,.nil,.nil,.nil] []),u (.st v6 l0 9 []),w 7 (.mv (.i 41))] []) .ret) (.ite [m v4,u (.ca N.ba 0 [] [.l 0,.i 0,.i 2147483648]),u (.un .not l0),m l0] [] 0 (.seq (.reg [u (.bd [.nil,.nil,.t (.int .i64 (0)),.nil,.nil,.nil,.nil,.nil,.nil] []),u (.st v6 l0 9 []),w 7 (.mv (.i 8))] []) .ret) .skip))))) (.seq (.reg [h 2 v5,m v4,m v3,m v1,u (.bd [.nil,.nil,.t (.int .i64 (0)),.nil,.nil,.nil,.nil,.nil,.nil] [(0,2,.l 3),(2,1,.l 2),(4,1,.l 1),(5,1,.l 0)]),w 9 (.al [.nil,.nil,.t (.int .i64 (0)),.nil,.nil,.nil,.nil,.nil,.nil] [(3,3),(6,1),(7,1),(8,1)]),u (.st l0 l1 9 [(3,3),(6,1),(7,1),(8,1)])] []) (.seq (.seq (.reg [w 11 (.mv v2),w 12 (.ln l0),w 13 (.mv (.i 0))] []) (.blk 1 K.j6)) (.seq (.seq (.reg [m v1,w 14 (.ln l0),w 15 (.mv (.i 0))] []) (.blk 3 K.j7)) (.seq (.reg [h 9 v9,u (.ca N.cg 0 [] [.l 0]),u (.st v6 l0 9 []),w 7 (.mv (.i 0))] []) .ret))))))),res:=[(6,some (9,true)),(7,none)]}
def c7:C:=(.seq (.ite [m v9,m v8,u (.bin .lss l1 l0)] [] 0 .skip (.exit 0)) (.seq (.blk 1 (.ite [m v2,m v9,a 1 l1 l0,g l0,u (.bin .lss l0 (.i 0)),m l0,y 0 false (.mv v2),y 1 false (.mv v9),y 2 false (.ia l1 l0 1),y 3 false (.ld l0 1 false),y 4 false (.fa v5 0),y 5 false (.ld l0 1 false),y 6 false (.ln l0),y 7 false (.bin .geq l3 l0),u (.pk l8 (.b true) l0)] [] 0 (.seq (.reg [u (.bd [.nil,.nil,.t (.int .i64 (0)),.nil,.nil,.nil,.nil,.nil,.nil] []),u (.st v6 l0 9 []),w 7 (.mv (.i 3))] []) .ret) .skip)) (.reg [m v9,u (.bin .add l0 (.i 1)),w 9 (.mv l0)] [])))
def j8:C:= .loop true [0,7,10,11,12] K.c7
def gj:C:=(.seq (.ite [m v11,m v8,u (.bin .lss l1 l0)] [] 0 .skip (.exit 2)) (.seq (.blk 3 (.reg [f 3 v10,g l0,m v2,m v11,a 1 l1 l0,g l0,u (.bd [.t (.int .i64 (0)),.t (.int .i64 (0)),.t (.int .i64 (0))] [(0,1,.l 0),(1,1,.i (-1))]),u (.bs [.l 0] 3),u (.app l6 l0 true 3),f 3 v10,u (.st l0 l1 1 [])] [(1,8)])) (.reg [m v11,u (.bin .add l0 (.i 1)),w 11 (.mv l0)] [])))
def j9:C:= .loop true [0,3,4,5,7,9,12] K.gj
def gk:C:=(.seq (.ite [m v12,m v1,u (.ln l0),u (.bin .lss l2 l0)] [] 0 .skip (.exit 4)) (.seq (.blk 5 (.reg [f 6 v10,g l0,u (.bs [.i (-1)] 1),u (.app l1 l0 true 1),f 7 v10,g l0,u (.bs [.i (-1)] 1),u (.app l1 l0 true 1),f 8 v10,g l0,m v8,u (.mkt l0 (.int .i64 (0)) 1),u (.bs [.l 0] 1),u (.app l3 l0 true 1),f 6 v10,u (.st l0 l11 1 []),f 7 v10,u (.st l0 l9 1 []),f 8 v10,u (.st l0 l5 1 [])] [(2,2),(5,0),(6,0),(9,0),(9,4),(11,0),(11,4),(12,0),(12,4)])) (.reg [m v12,u (.bin .add l0 (.i 1)),w 12 (.mv l0)] [])))
def ka:C:= .loop true [0,2,3,4,5,7,9,11] K.gk
def aR:Fn:={ nargs:=5,vars:=[0,1,2,3,4,5,10,11,12,13,14,15,16],body:=(.seq (.reg [w 5 (.bx v0 2),w 6 (.al [.nil,.nil,.t (.int .i64 (0)),.nil,.nil,.nil,.nil,.nil,.nil] []),w 7 (.mv (.i 0))] []) (.seq (.reg [m v2,u (.ln l0),w 8 (.mv l0)] []) (.seq (.ite [h 2 v5,m v1,u (.ca N.b7 0 [] [.l 1,.l 0]),u (.un .not l0),m l0,y 0 false (.mv v8),y 1 false (.bin .lss l0 (.i 1)),u (.pk l2 (.b true) l0),m l0,y 0 false (.mv v8),y 1 false (.bin .gtr l0 (.i 12)),u (.pk l2 (.b true) l0),m l0,y 0 false (.mv v3),y 1 false (.ln l0),y 2 false (.mv v8),y 3 false (.bin .neq l1 l0),u (.pk l4 (.b true) l0)] [] 0 (.seq (.reg [u (.bd [.nil,.nil,.t (.int .i64 (0)),.nil,.nil,.nil,.nil,.nil,.nil] []),u (.st v6 l0 9 []),w 7 (.mv (.i 6))] []) .ret) .skip) (.seq (.seq (.reg [w 9 (.mv (.i 0))] []) (.blk 0 K.j8)) (.seq (.ite [m v3,u (.ca N.bz 0 [] [.l 0]),u (.un .not l0)] [] 0 (.seq (.reg [u (.bd [.nil,.nil,.t (.int .i64 (0)),.nil,.nil,.nil,.nil,.nil,.nil] []),u (.st v6 l0 9 []),w 7 (.mv (.i 41))] []) .ret) .skip) (.seq (.ite [m v4,u (.bin .lss l0 (.i 0)),m l0,y 0 false (.mv v4),y 1 false (.bin .gtr l0 (.i 2147483648)),u (.pk l2 (.b true) l0)] [] 0 (.seq (.reg [u (.bd [.nil,.nil,.t (.int .i64 (0)),.nil,.nil,.nil,.nil,.nil,.nil] []),u (.st v6 l0 9 []),w 7 (.mv (.i 8))] []) .ret) .skip) (.seq (.reg [h 2 v5,m v4,m v3,m v1,u (.bd [.nil,.nil,.t (.int .i64 (0)),.nil,.nil,.nil,.nil,.nil,.nil] [(0,2,.l 3),(2,1,.l 2),(4,1,.l 1),(5,1,.l 0)]),w 10 (.al [.nil,.nil,.t (.int .i64 (0)),.nil,.nil,.nil,.nil,.nil,.nil] [(3,3),(6,1),(7,1),(8,1)]),u (.st l0 l1 9 [(3,3),(6,1),(7,1),(8,1)])] []) (.seq (.seq (.reg [w 11 (.mv (.i 0))] []) (.blk 2 K.j9)) (.seq (.seq (.reg [w 12 (.mv (.i 0))] []) (.blk 4 K.ka)) (.seq (.reg [h 9 v10,u (.ca N.du 0 [] [.l 0]),u (.st v6 l0 9 []),w 7 (.mv (.i 0))] []) .ret)))))))))),res:=[(6,some (9,true)),(7,none)]}
def cj:Fn:={ nargs:=4,vars:=[0,1,2,3,4,5,8],body:=(.seq (.reg [w 4 (.bx v0 9),w 5 (.bx v1 9),w 6 (.mv (.b false))] []) (.seq (.reg [m v2,m v3,u (.bin .eql l1 l0),m l0,y 0 true (.ld v4 9 true),y 1 true (.ld v5 9 true),y 2 true (.ca N.dv 0 [] [.l 1,.l 0]),u (.pk l3 l0 (.b false)),w 6 (.mv l0)] []) .ret)),res:=[(6,none)]}
def dM:Fn:={ nargs:=4,vars:=[0,1,2,3,4,8,9,10,11,12,13],body:=(.seq (.reg [w 4 (.bx v0 9),w 5 (.al [.nil,.nil,.t (.int .i64 (0)),.nil,.nil,.nil,.nil,.nil,.nil] []),w 6 (.mv (.i 0))] []) (.seq (.seq (.reg [h 9 v4,m v1,u (.bs [.l 0] 1),u (.ca N.cD 0 [] [.l 2,.l 0]),w 7 (.mv l0)] []) (.ite [m v7,u (.bin .neq l0 (.i 0))] [] 0 (.seq (.reg [h 9 v4,m v7,u (.st v5 l1 9 []),w 6 (.mv l1)] []) .ret) .skip)) (.seq (.reg [f 3 v4,g l0,m v1,a 3 l1 l0,h 3 l0,w 8 (.al [.t (.int .i64 (0)),.t (.int .i64 (0)),.t (.int .i64 (0))] []),u (.st l0 l1 3 [])] []) (.seq (.reg [f 0 v4,h 2 l0,m v2,f 0 v8,g l0,u (.ca N.cE 0 [] [.l 3,.l 2,.l 0]),w 9 (.mv l0)] []) (.seq (.blk 0 (.ite [f 1 v8,g l0,u (.bin .geq l0 (.i 0)),m l0] [] 0 (.seq (.reg [h 9 v4,u (.st v5 l0 9 []),w 6 (.mv (.i 10))] []) .ret) (.ite [m v9,u (.bin .lss l0 (.i 0)),m l0] [] 0 (.seq (.reg [h 9 v4,u (.st v5 l0 9 []),w 6 (.mv (.i 4))] []) .ret) (.ite [m v3,u (.ca N.ba 0 [] [.l 0,.i 0,.i 3600]),u (.un .not l0),m l0] [] 0 (.seq (.reg [h 9 v4,u (.st v5 l0 9 []),w 6 (.mv (.i 1))] []) .ret) .skip)))) (.seq (.reg [h 9 v4,u (.ca N.bL 1 [] [.l 0]),w 10 (.al [.nil,.nil,.t (.int .i64 (0)),.nil,.nil,.nil,.nil,.nil,.nil] []),u (.st l0 l1 9 [])] []) (.seq (.reg [f 3 v10,g l0,m v1,f 3 v10,g l0,m v1,m v2,m v9,m v3,u (.bin .add l1 l0),a 3 l8 l7,f 1 l0,u (.st l0 l5 1 []),a 3 l8 l7,f 2 l0,u (.st l0 l5 1 [])] [(4,13)]) (.seq (.reg [h 9 v10,u (.st v5 l0 9 []),w 6 (.mv (.i 0))] []) .ret)))))))),res:=[(5,some (9,true)),(6,none)]}
def pe:C:=(.its [u (.bin .lss v10 v9)] [] 0 .skip (.exit 1) (.seq (.blk 2 (.seq (.reg [m v10,a 3 v8 v10,h 3 l0,w 7 (.al [.t (.int .i64 (0)),.t (.int .i64 (0)),.t (.int .i64 (0))] []),w 6 (.mv l3),u (.st l1 l2 3 [])] []) (.seq (.ite [f 1 v7,g l0,u (.bin .lss l0 (.i 0))] [] 0 (.exit 2) .skip) (.seq (.seq (.reg [f 2 v7,g l0,m v1,u (.bin .sub l1 l0),f 2 v7,u (.st l0 l1 1 [])] []) (.ite [f 2 v7,g l0,u (.bin .leq l0 (.i 0))] [] 0 (.reg [f 0 v2,h 2 l0,f 1 v7,g l0,f 0 v7,g l0,u (.ca N.eB 0 [] [.l 4,.l 2,.l 0]),u (.bd [.t (.int .i64 (0)),.t (.int .i64 (0)),.t (.int .i64 (0))] [(0,1,.l 0),(1,1,.i (-1))]),u (.st v7 l0 3 [])] []) .skip)) (.reg [f 3 v5,g l0,m v6,h 3 v7,a 3 l2 l1,u (.st l0 l1 3 [])] []))))) (.reg [u (.bin .add v10 (.i 1)),w 10 (.mv l0)] [])))
def qv:C:= .loop true [0,4,6,7] K.pe
def dQ:Fn:={ nargs:=2,vars:=[0,1,2,4,5,6,7,8,34,35,36],body:=(.seq (.reg [w 2 (.bx v0 9),w 3 (.al [.nil,.nil,.t (.int .i64 (0)),.nil,.nil,.nil,.nil,.nil,.nil] []),w 4 (.mv (.i 0))] []) (.seq (.blk 0 (.ite [h 9 v2,u (.ca N.cL 0 [] [.l 0]),u (.un .not l0),m l0] [] 0 (.seq (.reg [h 9 v2,u (.st v3 l0 9 []),w 4 (.mv (.i 6))] []) .ret) (.ite [m v1,u (.ca N.ba 0 [] [.l 0,.i 0,.i 3600]),u (.un .not l0),m l0] [] 0 (.seq (.reg [h 9 v2,u (.st v3 l0 9 []),w 4 (.mv (.i 1))] []) .ret) (.ite [f 2 v2,g l0,m v1,u (.bin .add l1 l0),u (.bin .gtr l0 (.i 2147483648)),m l0] [] 0 (.seq (.reg [h 9 v2,u (.st v3 l0 9 []),w 4 (.mv (.i 8))] []) .ret) .skip)))) (.seq (.reg [h 9 v2,u (.ca N.bL 1 [] [.l 0]),w 5 (.al [.nil,.nil,.t (.int .i64 (0)),.nil,.nil,.nil,.nil,.nil,.nil] []),u (.st l0 l1 9 [])] []) (.seq (.reg [f 2 v5,g l0,m v1,u (.bin .add l1 l0),f 2 v5,u (.st l0 l1 1 [])] []) (.seq (.seq (.reg [f 3 v5,w 8 (.ld l0 1 false),w 9 (.ln l0),w 10 (.mv (.i 0))] []) (.blk 1 K.qv)) (.seq (.reg [h 9 v5,u (.st v3 l0 9 []),w 4 (.mv (.i 0))] []) .ret)))))),res:=[(3,some (9,true)),(4,none)]}
def pf:C:=(.its [u (.bin .lss v20 v19)] [] 0 .skip (.exit 1) (.seq (.blk 2 (.seq (.reg [m v20,a 3 v18 v20,h 3 l0,w 14 (.al [.t (.int .i64 (0)),.t (.int .i64 (0)),.t (.int .i64 (0))] []),w 13 (.mv l3),u (.st l1 l2 3 [])] []) (.seq (.reg [f 0 v8,g l0,f 0 v14,g l0,u (.ca N.aN 0 [] [.l 2,.l 0]),m v2,m v13,u (.bin .shr l1 l0),u (.bin .and l0 (.i 1)),u (.bin .eql l0 (.i 1)),w 15 (.mv l5),w 16 (.mv l1)] []) (.seq (.reg [f 8 v9,g l0,m v1,a 1 l1 l0,g l0,m v13,a 1 l1 l0,w 17 (.mv l0)] []) (.blk 3 (.ite [m v15,m l0,y 0 true (.mv v16),u (.pk l1 l0 (.b false)),m l0] [] 0 (.seq (.reg [m v17,u (.nc l0),g l0,u (.bin .add l0 (.i 1)),u (.nc l3),u (.st l0 l1 1 [])] []) (.ite [m v17,u (.nc l0),g l0,f 2 v8,g l0,u (.bin .gtr l2 l0)] [] 0 (.seq (.reg [h 9 v4,u (.bd [.t (.int .i64 (0)),.t (.int .i64 (0)),.t (.int .i64 (0)),.nil] []),u (.st v5 l1 9 []),u (.st v6 l1 4 []),w 7 (.mv (.i 43))] []) .ret) .skip)) (.seq (.reg [m v17,u (.nc l0),u (.st l0 (.i 0) 1 [])] []) (.ite [m v15] [] 0 (.reg [f 3 v12,g l0,f 4 v4,g l0,m v13,a 1 l1 l0,g l0,u (.bs [.l 0] 1),u (.app l6 l0 true 1),f 3 v12,u (.st l0 l1 1 [])] [(1,8)]) .skip)))))))) (.reg [u (.bin .add v20 (.i 1)),w 20 (.mv l0)] [])))
def qw:C:= .loop false [0,3,7,10,11,13,14,15,16,17] K.pf
def dR:Fn:={ nargs:=4,vars:=[0,1,2,3,4,8,9,10,11,12,13,14,15,16,17,18,19,20,108,109,110],body:=(.seq (.reg [w 4 (.bx v0 9),w 5 (.al [.nil,.nil,.t (.int .i64 (0)),.nil,.nil,.nil,.nil,.nil,.nil] []),w 6 (.al [.t (.int .i64 (0)),.t (.int .i64 (0)),.t (.int .i64 (0)),.nil] []),w 7 (.mv (.i 0))] []) (.seq (.blk 0 (.ite [h 9 v4,u (.ca N.cL 0 [] [.l 0]),u (.un .not l0),m l0] [] 0 (.seq (.reg [h 9 v4,u (.bd [.t (.int .i64 (0)),.t (.int .i64 (0)),.t (.int .i64 (0)),.nil] []),u (.st v5 l1 9 []),u (.st v6 l1 4 []),w 7 (.mv (.i 6))] []) .ret) (.ite [m v1,f 5 v4,g l0,u (.ln l0),u (.bin .sub l0 (.i 1)),u (.ca N.ba 0 [] [.l 4,.i 0,.l 0]),u (.un .not l0),m l0] [] 0 (.seq (.reg [h 9 v4,u (.bd [.t (.int .i64 (0)),.t (.int .i64 (0)),.t (.int .i64 (0)),.nil] []),u (.st v5 l1 9 []),u (.st v6 l1 4 []),w 7 (.mv (.i 40))] []) .ret) .skip))) (.seq (.reg [f 5 v4,g l0,m v1,a 4 l1 l0,h 4 l0,w 8 (.al [.nil,.t (.int .i64 (0)),.t (.int .i64 (0)),.t (.int .i64 (0))] []),u (.st l0 l1 4 [])] []) (.seq (.ite [m v3,f 3 v8,g l0,u (.un .neg l0),f 3 v8,g l0,u (.ca N.ba 0 [] [.l 5,.l 2,.l 0]),u (.un .not l0),m l0,y 0 false (.fa v4 2),y 1 false (.ld l0 1 false),y 2 false (.mv v3),y 3 false (.bin .add l1 l0),y 4 false (.ca N.ba 0 [] [.l 0,.i 0,.i 2147483648]),y 5 false (.un .not l0),u (.pk l6 (.b true) l0)] [] 0 (.seq (.reg [h 9 v4,u (.bd [.t (.int .i64 (0)),.t (.int .i64 (0)),.t (.int .i64 (0)),.nil] []),u (.st v5 l1 9 []),u (.st v6 l1 4 []),w 7 (.mv (.i 1))] []) .ret) .skip) (.seq (.reg [h 9 v4,u (.ca N.bX 2 [] [.l 0]),w 9 (.al [.nil,.nil,.t (.int .i64 (0)),.nil,.nil,.nil,.nil,.nil,.nil] []),u (.st l0 l1 9 [])] []) (.seq (.reg [w 10 (.mv (.i 1))] []) (.seq (.ite [f 7 v4,g l0,m v1,a 1 l1 l0,g l0,u (.bin .geq l0 (.i 0)),m l0,y 0 true (.fa v4 2),y 1 true (.ld l0 1 false),y 2 true (.fa v4 7),y 3 true (.ld l0 1 false),y 4 true (.mv v1),y 5 true (.ia l1 l0 1),y 6 true (.ld l0 1 false),y 7 true (.bin .sub l5 l0),y 8 true (.fa v8 1),y 9 true (.ld l0 1 false),y 10 true (.bin .gtr l2 l0),u (.pk l11 l0 (.b false))] [] 0 (.reg [w 10 (.mv (.i 2))] []) .skip) (.seq (.reg [f 6 v4,g l0,m v1,a 1 l1 l0,g l0,m v10,u (.bin .add l1 l0),u (.bin .rem l0 (.i 65536)),w 11 (.mv l0)] []) (.seq (.reg [f 6 v9,g l0,m v1,f 7 v9,g l0,m v1,m v11,f 2 v4,g l0,a 1 l7 l6,u (.st l0 l3 1 []),a 1 l6 l5,u (.st l0 l3 1 [])] [(4,11),(8,11)]) (.seq (.reg [m v1,m v11,f 2 v4,g l0,m v3,u (.bin .add l1 l0),u (.bd [.t (.int .i64 (0)),.t (.int .i64 (0)),.t (.int .i64 (0)),.nil] [(0,1,.l 5),(1,1,.l 4),(2,1,.l 0)]),w 12 (.al [.t (.int .i64 (0)),.t (.int .i64 (0)),.t (.int .i64 (0)),.nil] [(3,1)]),u (.st l0 l1 4 [(3,1)])] []) (.seq (.seq (.reg [f 3 v4,w 18 (.ld l0 1 false),w 19 (.ln l0),w 20 (.mv (.i 0))] []) (.blk 1 K.qw)) (.seq (.reg [f 3 v12,g l0,u (.ca N.bf 0 [0] [.l 0])] []) (.seq (.reg [h 9 v9,h 4 v12,u (.st v5 l1 9 []),u (.st v6 l1 4 []),w 7 (.mv (.i 0))] [(1,3)]) .ret))))))))))))),res:=[(5,some (9,true)),(6,some (4,true)),(7,none)]}
end Go.Ev.K
namespace Go.Ev
class jo [Lib]:Prop where
 en:Lib.fs N.aD=some K.aD
 lH:Lib.fs N.cK=some K.cK
 dh:Lib.fs N.aM=some K.aM
 iP:Lib.fs N.aU=some K.aU
 iQ:Lib.fs N.aR=some K.aR
 jq:Lib.fs N.cj=some K.cj
 lI:Lib.fs N.dM=some K.dM
 m0:Lib.fs N.dQ=some K.dQ
 m5:Lib.fs N.dR=some K.dR
namespace K
variable [Lib] [jo]
theorem en:Lib.fs N.aD=some K.aD:=jo.en
theorem lH:Lib.fs N.cK=some K.cK:=jo.lH
theorem dh:Lib.fs N.aM=some K.aM:=jo.dh
theorem iP:Lib.fs N.aU=some K.aU:=jo.iP
theorem iQ:Lib.fs N.aR=some K.aR:=jo.iQ
theorem jq:Lib.fs N.cj=some K.cj:=jo.jq
theorem lI:Lib.fs N.dM=some K.dM:=jo.lI
theorem m0:Lib.fs N.dQ=some K.dQ:=jo.m0
theorem m5:Lib.fs N.dR=some K.dR:=jo.m5
end K
end Go.Ev
namespace Go.Ev.K
open Go.Ev
def ez:Fn:={ nargs:=0,vars:=[0],body:=(.seq (.reg [w 0 (.al [.nil,.nil] [])] []) (.seq (.reg [u (.bd [.t (.int .i64 (0)),.t (.bool false)] [(1,1,.b true)]),u (.bd [.t (.int .i64 (0)),.t (.bool false)] []),u (.bs [.l 1,.l 0] 2),u (.bd [.t (.int .i64 (0)),.t (.int .i64 (0))] [(0,1,.i 1),(1,1,.i 1)]),u (.bd [.t (.int .i64 (0)),.t (.int .i64 (0)),.t (.int .i64 (0)),.t (.int .i64 (0)),.t (.bool false),.t (.bool false),.t (.int .i64 (0)),.t (.int .i64 (0)),.t (.int .i64 (0)),.t (.int .i64 (0))] [(1,1,.i 1),(2,1,.i 12),(3,1,.i 1),(4,1,.b true),(6,2,.l 0)]),u (.bs [.l 0] 10),u (.bd [.nil,.nil] [(0,1,.l 3),(1,1,.l 0)]),u (.st v0 l0 2 [])] []) .ret)),res:=[(0,some (2,true))]}
def aX:Fn:={ nargs:=2,vars:=[0,1,2,4,5],body:=(.seq (.reg [w 2 (.bx v0 2),w 3 (.mv (.b false))] []) (.seq (.reg [u (.mf N.aK [.v 2]),w 4 (.mv l0)] []) (.seq (.reg [h 2 v2,u (.ca N.cY 0 [] [.l 0]),m l0,y 0 true (.mv v1),y 1 true (.ln l0),y 2 true (.bin .leq l0 (.i 32)),u (.pk l3 l0 (.b false)),m l0,y 0 true (.mv v1),y 1 true (.mv v4),y 2 true (.ca N.ae 0 [] [.l 1,.l 0]),y 3 true (.un .not l0),u (.pk l4 l0 (.b false)),w 3 (.mv l0)] []) .ret))),res:=[(3,none)]}
def bD:Fn:={ nargs:=2,vars:=[0,1,3],body:=(.seq (.reg [w 2 (.mv (.b false))] []) (.seq (.reg [m v0,f 0 v1,g l0,u (.ln l0),u (.bin .sub l0 (.i 1)),u (.ca N.ba 0 [] [.l 4,.i 0,.l 0]),u (.un .not l0),w 2 (.mv l0)] []) .ret)),res:=[(2,none)]}
def bW:Fn:={ nargs:=1,vars:=[0,2],body:=(.seq (.reg [w 1 (.mv (.b false))] []) (.seq (.reg [m v0,u (.ca N.aJ 0 [] [.l 0]),u (.ca N.bo 0 [] [.l 0]),u (.ca N.bU 0 [] [.l 0,.i 1,.i 65535]),w 1 (.mv l0)] []) .ret)),res:=[(1,none)]}
def fA:C:=(.its [u (.bin .lss v8 v7)] [] 0 .skip (.exit 0) (.seq (.blk 1 (.seq (.reg [a 4 v6 v8,h 4 l0,w 4 (.al [.nil,.t (.int .i64 (0)),.t (.int .i64 (0)),.t (.int .i64 (0))] []),u (.st l0 l1 4 [])] []) (.seq (.reg [f 0 v4,g l0,u (.ca N.ai 0 [] [.l 0]),f 0 v4,u (.st l0 l1 1 [])] []) (.reg [f 5 v3,g l0,h 4 v4,u (.bs [.l 0] 4),u (.app l2 l0 true 4),f 5 v3,u (.st l0 l1 1 [])] [])))) (.reg [u (.bin .add v8 (.i 1)),w 8 (.mv l0)] [])))
def jr:C:= .loop true [0,4,5,9,10,11] K.fA
def fB:C:=(.its [u (.bin .lss v11 v10)] [] 0 .skip (.exit 2) (.seq (.blk 3 (.seq (.reg [a 1 v9 v11,g l0,w 5 (.mv l0)] []) (.reg [f 8 v3,g l0,m v5,u (.ca N.ai 0 [] [.l 0]),u (.bs [.l 0] 1),u (.app l3 l0 true 1),f 8 v3,u (.st l0 l1 1 [])] [(1,4),(1,5)]))) (.reg [u (.bin .add v11 (.i 1)),w 11 (.mv l0)] [])))
def jt:C:= .loop true [0,1,4,5,6,7,8] K.fB
def cg:Fn:={ nargs:=1,vars:=[0,1,2,3,5,7,29,30,31,56,57,58],body:=(.seq (.reg [w 1 (.bx v0 9),w 2 (.al [.nil,.nil,.t (.int .i64 (0)),.nil,.nil,.nil,.nil,.nil,.nil] [])] []) (.seq (.reg [h 9 v1,w 3 (.al [.nil,.nil,.t (.int .i64 (0)),.nil,.nil,.nil,.nil,.nil,.nil] [(5,4),(8,1)]),u (.st l0 l1 9 [])] []) (.seq (.reg [f 0 v1,f 0 l0,g l0,u (.ca N.ak 0 [] [.l 0]),f 0 v1,f 1 l0,g l0,u (.ca N.ao 0 [] [.l 0]),u (.bd [.nil,.nil] [(0,1,.l 4),(1,1,.l 0)]),f 0 v3,u (.st l0 l1 2 [])] [(6,0)]) (.seq (.reg [f 3 v1,g l0,u (.ca N.aj 0 [] [.l 0]),f 4 v1,g l0,u (.ca N.ai 0 [] [.l 0]),f 3 v3,u (.st l0 l4 1 []),f 4 v3,u (.st l0 l3 1 [])] [(4,0)]) (.seq (.reg [f 5 v3,u (.st l0 (.c (.nil)) 1 [(5,4)])] []) (.seq (.seq (.reg [f 5 v1,w 6 (.ld l0 1 false),w 7 (.ln l0),w 8 (.mv (.i 0))] []) (.blk 0 K.jr)) (.seq (.reg [f 6 v1,g l0,u (.ca N.ai 0 [] [.l 0]),f 7 v1,g l0,u (.ca N.ai 0 [] [.l 0]),f 6 v3,u (.st l0 l4 1 []),f 7 v3,u (.st l0 l3 1 [])] [(4,0)]) (.seq (.reg [f 8 v3,u (.st l0 (.c (.nil)) 1 [(8,1)])] []) (.seq (.seq (.reg [f 8 v1,w 9 (.ld l0 1 false),w 10 (.ln l0),w 11 (.mv (.i 0))] []) (.blk 2 K.jt)) (.seq (.reg [h 9 v3,u (.st v2 l0 9 [])] []) .ret)))))))))),res:=[(2,some (9,true))]}
def aY:C:=(.seq (.ite [m v4,m v1,u (.ln l0),u (.bin .lss l2 l0)] [] 0 .skip (.exit 0)) (.seq (.blk 1 (.seq (.reg [m v1,m v4,a 4 l1 l0,h 4 l0,w 5 (.al [.nil,.t (.int .i64 (0)),.t (.int .i64 (0)),.t (.int .i64 (0))] []),u (.st l0 l1 4 [])] []) (.ite [f 0 v5,g l0,u (.ln l0),u (.bin .eql l0 (.i 0)),m l0,y 0 false (.fa v5 0),y 1 false (.ld l0 1 false),y 2 false (.fa v2 0),y 3 false (.ld l0 1 false),y 4 false (.ln l0),y 5 false (.ca N.ec 0 [] [.l 3,.l 0]),y 6 false (.un .not l0),u (.pk l7 (.b true) l0),m l0,y 0 false (.fa v5 1),y 1 false (.ld l0 1 false),y 2 false (.bin .lss l0 (.i 1)),u (.pk l3 (.b true) l0),m l0,y 0 false (.fa v5 1),y 1 false (.ld l0 1 false),y 2 false (.bin .gtr l0 (.i 600)),u (.pk l3 (.b true) l0),m l0,y 0 false (.fa v5 2),y 1 false (.ld l0 1 false),y 2 false (.bin .lss l0 (.i 0)),u (.pk l3 (.b true) l0),m l0,y 0 false (.fa v5 2),y 1 false (.ld l0 1 false),y 2 false (.bin .gtr l0 (.i 10)),u (.pk l3 (.b true) l0),m l0,y 0 false (.fa v5 3),y 1 false (.ld l0 1 false),y 2 false (.bin .lss l0 (.i 0)),u (.pk l3 (.b true) l0),m l0,y 0 false (.fa v5 3),y 1 false (.ld l0 1 false),y 2 false (.bin .gtr l0 (.i 60)),u (.pk l3 (.b true) l0)] [] 0 (.seq (.reg [w 3 (.mv (.b false))] []) .ret) .skip))) (.reg [m v4,u (.bin .add l0 (.i 1)),w 4 (.mv l0)] [])))
def kc:C:= .loop true [0,3,5] K.aY
def b7:Fn:={ nargs:=2,vars:=[0,1,2,4,5,6],body:=(.seq (.reg [w 2 (.bx v0 2),w 3 (.mv (.b false))] []) (.seq (.seq (.reg [w 4 (.mv (.i 0))] []) (.blk 0 K.kc)) (.seq (.reg [h 2 v2,u (.ca N.cJ 0 [] [.l 0]),u (.bin .eql l0 (.i 0)),m l0,y 0 true (.mv v1),y 1 true (.ln l0),y 2 true (.bin .leq l0 (.i 32)),u (.pk l3 l0 (.b false)),w 3 (.mv l0)] []) .ret))),res:=[(3,none)]}
def bM:C:=(.seq (.ite [m v2,m v0,u (.ln l0),u (.bin .lss l2 l0)] [] 0 .skip (.exit 0)) (.seq (.blk 1 (.ite [m v0,m v2,a 1 l1 l0,g l0,u (.bin .lss l0 (.i 1)),m l0,y 0 false (.mv v0),y 1 false (.mv v2),y 2 false (.ia l1 l0 1),y 3 false (.ld l0 1 false),y 4 false (.bin .gtr l0 (.i 65535)),u (.pk l5 (.b true) l0),m l0,y 0 false (.mv v0),y 1 false (.mv v2),y 2 false (.sc l1 none (some l0) 1),y 3 false (.mv v0),y 4 false (.mv v2),y 5 false (.ia l1 l0 1),y 6 false (.ld l0 1 false),y 7 false (.ca N.dZ 0 [] [.l 4,.l 0]),u (.pk l8 (.b true) l0)] [] 0 (.seq (.reg [w 1 (.mv (.b false))] []) .ret) .skip)) (.reg [m v2,u (.bin .add l0 (.i 1)),w 2 (.mv l0)] [])))
def ig:C:= .loop true [1] K.bM
def bz:Fn:={ nargs:=1,vars:=[0,2,3],body:=(.seq (.reg [w 1 (.mv (.b false))] []) (.seq (.seq (.reg [w 2 (.mv (.i 0))] []) (.blk 0 K.ig)) (.seq (.reg [w 1 (.mv (.b true))] []) .ret))),res:=[(1,none)]}
def gH:C:=(.seq (.ite [m v4,f 5 v1,g l0,u (.ln l0),u (.bin .lss l3 l0)] [] 0 .skip (.exit 0)) (.seq (.blk 1 (.seq (.reg [f 5 v1,g l0,m v4,a 4 l1 l0,h 4 l0,w 5 (.al [.nil,.t (.int .i64 (0)),.t (.int .i64 (0)),.t (.int .i64 (0))] []),u (.st l0 l1 4 [])] []) (.seq (.reg [f 0 v5,g l0,u (.app (.c (.nil)) l0 true 1),f 0 v5,u (.st l0 l1 1 [])] []) (.reg [f 5 v3,g l0,h 4 v5,u (.bs [.l 0] 4),u (.app l2 l0 true 4),f 5 v3,u (.st l0 l1 1 [])] [])))) (.reg [m v4,u (.bin .add l0 (.i 1)),w 4 (.mv l0)] [])))
def lJ:C:= .loop true [0,5,6] K.gH
def gI:C:=(.seq (.ite [m v6,f 8 v1,g l0,u (.ln l0),u (.bin .lss l3 l0)] [] 0 .skip (.exit 2)) (.seq (.blk 3 (.reg [f 8 v3,g l0,f 8 v1,g l0,m v6,a 1 l1 l0,g l0,u (.app (.c (.nil)) l0 true 1),u (.bs [.l 0] 1),u (.app l7 l0 true 1),f 8 v3,u (.st l0 l1 1 [])] [(1,8),(1,9)])) (.reg [m v6,u (.bin .add l0 (.i 1)),w 6 (.mv l0)] [])))
def lK:C:= .loop true [0,4,5] K.gI
def du:Fn:={ nargs:=1,vars:=[0,1,2,3,4,5,6],body:=(.seq (.reg [w 1 (.bx v0 9),w 2 (.al [.nil,.nil,.t (.int .i64 (0)),.nil,.nil,.nil,.nil,.nil,.nil] [])] []) (.seq (.reg [w 3 (.al [.nil,.nil,.t (.int .i64 (0)),.nil,.nil,.nil,.nil,.nil,.nil] [(5,4),(8,1)]),f 0 v1,h 2 l0,u (.ca N.dq 0 [] [.l 0]),f 2 v1,g l0,f 3 v1,g l0,u (.app (.c (.nil)) l0 true 3),f 4 v1,g l0,u (.app (.c (.nil)) l0 true 1),f 6 v1,g l0,u (.app (.c (.nil)) l0 true 1),f 7 v1,g l0,u (.app (.c (.nil)) l0 true 1),u (.bd [.nil,.nil,.t (.int .i64 (0)),.nil,.nil,.nil,.nil,.nil,.nil] [(0,2,.l 14),(2,1,.l 12),(3,1,.l 9),(4,1,.l 6),(6,1,.l 3),(7,1,.l 0)]),u (.st (.l 18) l0 9 [(5,4),(8,1)])] [(0,4),(0,9),(0,12),(0,15),(0,18),(5,1),(5,9),(5,12),(5,15),(5,18),(7,1),(10,1),(10,4),(13,1),(13,4),(13,9),(16,1),(16,4),(16,9),(16,12)]) (.seq (.seq (.reg [w 4 (.mv (.i 0))] []) (.blk 0 K.lJ)) (.seq (.seq (.reg [w 6 (.mv (.i 0))] []) (.blk 2 K.lK)) (.seq (.reg [h 9 v3,u (.st v2 l0 9 [])] []) .ret))))),res:=[(2,some (9,true))]}
def gJ:C:=(.seq (.ite [m v5,f 3 v2,g l0,u (.ln l0),u (.bin .lss l3 l0)] [] 0 .skip (.exit 0)) (.seq (.blk 1 (.ite [f 3 v2,g l0,m v5,a 3 l1 l0,h 3 l0,f 3 v3,g l0,m v5,a 3 l1 l0,h 3 l0,u (.eqk (.ints 3) true l5 l0)] [] 0 (.seq (.reg [w 4 (.mv (.b false))] []) .ret) .skip)) (.reg [m v5,u (.bin .add l0 (.i 1)),w 5 (.mv l0)] [])))
def lL:C:= .loop true [0,1,4,6,7,8,9] K.gJ
def gK:C:=(.seq (.ite [m v6,f 5 v2,g l0,u (.ln l0),u (.bin .lss l3 l0)] [] 0 .skip (.exit 2)) (.seq (.blk 3 (.seq (.reg [w 7 (.al [.nil,.t (.int .i64 (0)),.t (.int .i64 (0)),.t (.int .i64 (0))] []),w 8 (.al [.nil,.t (.int .i64 (0)),.t (.int .i64 (0)),.t (.int .i64 (0))] []),f 5 v2,g l0,m v6,a 4 l1 l0,h 4 l0,f 5 v3,g l0,m v6,a 4 l1 l0,h 4 l0,u (.st l11 l5 4 []),u (.st l11 l1 4 [])] [(8,13),(10,13),(11,13)]) (.ite [f 0 v7,g l0,f 0 v8,g l0,u (.ca N.aQ 0 [] [.l 2,.l 0]),u (.un .not l0),m l0,y 0 false (.fa v7 1),y 1 false (.ld l0 1 false),y 2 false (.fa v8 1),y 3 false (.ld l0 1 false),y 4 false (.bin .neq l2 l0),u (.pk l5 (.b true) l0),m l0,y 0 false (.fa v7 2),y 1 false (.ld l0 1 false),y 2 false (.fa v8 2),y 3 false (.ld l0 1 false),y 4 false (.bin .neq l2 l0),u (.pk l5 (.b true) l0),m l0,y 0 false (.fa v7 3),y 1 false (.ld l0 1 false),y 2 false (.fa v8 3),y 3 false (.ld l0 1 false),y 4 false (.bin .neq l2 l0),u (.pk l5 (.b true) l0)] [] 0 (.seq (.reg [w 4 (.mv (.b false))] []) .ret) .skip))) (.reg [m v6,u (.bin .add l0 (.i 1)),w 6 (.mv l0)] [])))
def lM:C:= .loop true [0,1,4,5,7,8,9] K.gK
def gL:C:=(.seq (.ite [m v9,f 8 v2,g l0,u (.ln l0),u (.bin .lss l3 l0)] [] 0 .skip (.exit 4)) (.seq (.blk 5 (.ite [f 8 v2,g l0,m v9,a 1 l1 l0,g l0,f 8 v3,g l0,m v9,a 1 l1 l0,g l0,u (.ca N.aQ 0 [] [.l 5,.l 0]),u (.un .not l0)] [] 0 (.seq (.reg [w 4 (.mv (.b false))] []) .ret) .skip)) (.reg [m v9,u (.bin .add l0 (.i 1)),w 9 (.mv l0)] [])))
def lN:C:= .loop true [0,1,4,5,6,7,8] K.gL
def dv:Fn:={ nargs:=2,vars:=[0,1,2,3,4,5,6,7,8,9],body:=(.seq (.reg [w 2 (.bx v0 9),w 3 (.bx v1 9),w 4 (.mv (.b false))] []) (.seq (.ite [f 0 v2,h 2 l0,f 0 v3,h 2 l0,u (.ca N.bI 0 [] [.l 2,.l 0]),u (.un .not l0),m l0,y 0 false (.fa v2 2),y 1 false (.ld l0 1 false),y 2 false (.fa v3 2),y 3 false (.ld l0 1 false),y 4 false (.bin .neq l2 l0),u (.pk l5 (.b true) l0),m l0,y 0 false (.fa v2 3),y 1 false (.ld l0 1 false),y 2 false (.ln l0),y 3 false (.fa v3 3),y 4 false (.ld l0 1 false),y 5 false (.ln l0),y 6 false (.bin .neq l3 l0),u (.pk l7 (.b true) l0),m l0,y 0 false (.fa v2 4),y 1 false (.ld l0 1 false),y 2 false (.fa v3 4),y 3 false (.ld l0 1 false),y 4 false (.ca N.aQ 0 [] [.l 2,.l 0]),y 5 false (.un .not l0),u (.pk l6 (.b true) l0),m l0,y 0 false (.fa v2 6),y 1 false (.ld l0 1 false),y 2 false (.fa v3 6),y 3 false (.ld l0 1 false),y 4 false (.ca N.aQ 0 [] [.l 2,.l 0]),y 5 false (.un .not l0),u (.pk l6 (.b true) l0),m l0,y 0 false (.fa v2 7),y 1 false (.ld l0 1 false),y 2 false (.fa v3 7),y 3 false (.ld l0 1 false),y 4 false (.ca N.aQ 0 [] [.l 2,.l 0]),y 5 false (.un .not l0),u (.pk l6 (.b true) l0),m l0,y 0 false (.fa v2 5),y 1 false (.ld l0 1 false),y 2 false (.ln l0),y 3 false (.fa v3 5),y 4 false (.ld l0 1 false),y 5 false (.ln l0),y 6 false (.bin .neq l3 l0),u (.pk l7 (.b true) l0),m l0,y 0 false (.fa v2 8),y 1 false (.ld l0 1 false),y 2 false (.ln l0),y 3 false (.fa v3 8),y 4 false (.ld l0 1 false),y 5 false (.ln l0),y 6 false (.bin .neq l3 l0),u (.pk l7 (.b true) l0)] [] 0 (.seq (.reg [w 4 (.mv (.b false))] []) .ret) .skip) (.seq (.seq (.reg [w 5 (.mv (.i 0))] []) (.blk 0 K.lL)) (.seq (.seq (.reg [w 6 (.mv (.i 0))] []) (.blk 2 K.lM)) (.seq (.seq (.reg [w 9 (.mv (.i 0))] []) (.blk 4 K.lN)) (.seq (.reg [w 4 (.mv (.b true))] []) .ret)))))),res:=[(4,none)]}
def mz:C:=(.its [u (.bin .lss v7 v6)] [] 0 .skip (.exit 0) (.seq (.blk 1 (.seq (.reg [a 1 v5 v7,g l0,w 4 (.mv l0)] []) (.ite [m v4,f 3 v2,g l0,u (.ln l0),u (.bin .sub l0 (.i 1)),u (.ca N.ba 0 [] [.l 4,.i 0,.l 0]),u (.un .not l0)] [] 0 (.seq (.reg [w 3 (.mv (.i 19))] []) .ret) .skip))) (.reg [u (.bin .add v7 (.i 1)),w 7 (.mv l0)] [])))
def ni:C:= .loop true [0,1,3,4] K.mz
def cD:Fn:={ nargs:=2,vars:=[0,1,2,4,6,10,11,12],body:=(.seq (.reg [w 2 (.bx v0 9),w 3 (.mv (.i 0))] []) (.seq (.ite [h 9 v2,u (.ca N.cL 0 [] [.l 0]),u (.un .not l0)] [] 0 (.seq (.reg [w 3 (.mv (.i 6))] []) .ret) .skip) (.seq (.seq (.reg [w 5 (.mv v1),w 6 (.ln l0),w 7 (.mv (.i 0))] []) (.blk 0 K.ni)) (.seq (.reg [w 3 (.mv (.i 0))] []) .ret)))),res:=[(3,none)]}
def cE:Fn:={ nargs:=3,vars:=[0,1,2,3,6,14],body:=(.seq (.reg [w 3 (.bx v0 2),w 4 (.mv (.i 0))] []) (.seq (.ite [m v1,f 1 v3,g l0,u (.ln l0),u (.bin .sub l0 (.i 1)),u (.ca N.ba 0 [] [.l 4,.i 0,.l 0]),u (.un .not l0)] [] 0 (.seq (.reg [w 4 (.mv (.i (-1)))] []) .ret) .skip) (.seq (.seq (.reg [w 5 (.mv v2)] []) (.blk 0 (.ite [f 1 v3,g l0,m v1,a 10 l1 l0,f 0 l0,g l0,u (.bin .eql v5 l0),m l0] [] 0 (.seq (.reg [h 2 v3,m v1,u (.ca N.eK 0 [] [.l 1,.l 0,.b false]),w 4 (.mv l0)] []) .ret) (.ite [f 1 v3,g l0,m v1,a 10 l1 l0,f 1 l0,g l0,u (.bin .eql v5 l0),m l0] [] 0 (.seq (.reg [h 2 v3,m v1,u (.ca N.eK 0 [] [.l 1,.l 0,.b true]),w 4 (.mv l0)] []) .ret) .skip)))) (.seq (.reg [w 4 (.mv (.i (-1)))] []) .ret)))),res:=[(4,none)]}
def oW:C:=(.its [u (.bin .lss v7 v6)] [] 0 .skip (.exit 0) (.seq (.blk 1 (.seq (.reg [m v7,w 5 (.al [.t (.int .i64 (0))] []),u (.st l0 l1 1 [])] []) (.seq (.ite [f 6 v1,g l0,g v5,a 1 l1 l0,g l0,u (.ca N.ba 0 [] [.l 0,.i (-1),.i 65535]),u (.un .not l0),m l0,y 0 false (.fa v1 7),y 1 false (.ld l0 1 false),y 2 false (.ld v5 1 false),y 3 false (.ia l1 l0 1),y 4 false (.ld l0 1 false),y 5 false (.fa v1 2),y 6 false (.ld l0 1 false),y 7 false (.ca N.ba 0 [] [.l 2,.i (-1),.l 0]),y 8 false (.un .not l0),u (.pk l9 (.b true) l0),m l0,y 0 false (.fa v1 6),y 1 false (.ld l0 1 false),y 2 false (.ld v5 1 false),y 3 false (.ia l1 l0 1),y 4 false (.ld l0 1 false),y 5 false (.bin .eql l0 (.i (-1))),y 6 false (.fa v1 7),y 7 false (.ld l0 1 false),y 8 false (.ld v5 1 false),y 9 false (.ia l1 l0 1),y 10 false (.ld l0 1 false),y 11 false (.bin .eql l0 (.i (-1))),y 12 false (.eqk (.bool) true l6 l0),u (.pk (.l 13) (.b true) l0),m l0,y 0 false (.fa v1 8),y 1 false (.ld l0 1 false),y 2 false (.ld v5 1 false),y 3 false (.ia l1 l0 1),y 4 false (.ld l0 1 false),y 5 false (.ln l0),y 6 false (.mv v3),y 7 false (.bin .neq l1 l0),u (.pk l8 (.b true) l0)] [] 0 (.seq (.reg [w 2 (.mv (.b false))] []) .ret) .skip) (.ite [f 8 v1,g l0,g v5,a 1 l1 l0,g l0,u (.mf N.cF [.v 1,.v 5]),u (.ca N.av 0 [] [.l 1,.l 0])] [] 0 (.seq (.reg [w 2 (.mv (.b false))] []) .ret) .skip)))) (.reg [u (.bin .add v7 (.i 1)),w 7 (.mv l0)] [])))
def pg:C:= .loop true [0,2,4,5] K.oW
def cL:Fn:={ nargs:=1,vars:=[0,1,2,3,4,5,65,66],body:=(.seq (.reg [w 1 (.bx v0 9),w 2 (.mv (.b false))] []) (.seq (.reg [f 3 v1,g l0,u (.ln l0),f 5 v1,g l0,u (.ln l0),w 3 (.mv l3),w 4 (.mv l1)] []) (.seq (.ite [f 0 v1,h 2 l0,f 5 v1,g l0,u (.ca N.aX 0 [] [.l 2,.l 0]),u (.un .not l0),m l0,y 0 false (.mv v3),y 1 false (.ca N.ba 0 [] [.l 0,.i 1,.i 12]),y 2 false (.un .not l0),u (.pk l3 (.b true) l0),m l0,y 0 false (.fa v1 4),y 1 false (.ld l0 1 false),y 2 false (.ln l0),y 3 false (.mv v3),y 4 false (.bin .neq l1 l0),u (.pk l5 (.b true) l0),m l0,y 0 false (.fa v1 4),y 1 false (.ld l0 1 false),y 2 false (.ca N.bW 0 [] [.l 0]),y 3 false (.un .not l0),u (.pk l4 (.b true) l0),m l0,y 0 false (.fa v1 2),y 1 false (.ld l0 1 false),y 2 false (.ca N.ba 0 [] [.l 0,.i 0,.i 2147483648]),y 3 false (.un .not l0),u (.pk l4 (.b true) l0),m l0,y 0 false (.fa v1 6),y 1 false (.ld l0 1 false),y 2 false (.ln l0),y 3 false (.mv v4),y 4 false (.bin .neq l1 l0),u (.pk l5 (.b true) l0),m l0,y 0 false (.fa v1 7),y 1 false (.ld l0 1 false),y 2 false (.ln l0),y 3 false (.mv v4),y 4 false (.bin .neq l1 l0),u (.pk l5 (.b true) l0),m l0,y 0 false (.fa v1 8),y 1 false (.ld l0 1 false),y 2 false (.ln l0),y 3 false (.mv v4),y 4 false (.bin .neq l1 l0),u (.pk l5 (.b true) l0)] [] 0 (.seq (.reg [w 2 (.mv (.b false))] []) .ret) .skip) (.seq (.seq (.reg [f 5 v1,g l0,w 6 (.ln l0),w 7 (.mv (.i 0))] []) (.blk 0 K.pg)) (.seq (.reg [f 3 v1,g l0,u (.mf N.cG [.v 1]),u (.ca N.au 0 [] [.l 1,.l 0]),u (.un .not l0),w 2 (.mv l0)] []) .ret))))),res:=[(2,none)]}
def eB:Fn:={ nargs:=3,vars:=[0,1,2,3,6,7,22],body:=(.seq (.reg [w 3 (.bx v0 2),w 4 (.mv (.i 0))] []) (.seq (.ite [m v1,u (.bin .lss l0 (.i 0)),m l0,y 0 false (.mv v1),y 1 false (.fa v3 1),y 2 false (.ld l0 1 false),y 3 false (.ln l0),y 4 false (.bin .geq l3 l0),u (.pk l5 (.b true) l0)] [] 0 (.seq (.reg [w 4 (.mv (.i (-1)))] []) .ret) .skip) (.seq (.seq (.reg [f 1 v3,g l0,m v1,a 10 l1 l0,h 10 l0,w 5 (.al [.t (.int .i64 (0)),.t (.int .i64 (0)),.t (.int .i64 (0)),.t (.int .i64 (0)),.t (.bool false),.t (.bool false),.t (.int .i64 (0)),.t (.int .i64 (0)),.t (.int .i64 (0)),.t (.int .i64 (0))] []),u (.st l0 l1 10 [])] []) (.seq (.reg [w 6 (.mv v2)] []) (.blk 0 (.ite [f 0 v5,g l0,u (.bin .eql v6 l0),m l0] [] 0 (.seq (.reg [f 1 v5,g l0,w 4 (.mv l0)] []) .ret) (.ite [f 1 v5,g l0,u (.bin .eql v6 l0),m l0] [] 0 (.seq (.reg [f 0 v5,g l0,w 4 (.mv l0)] []) .ret) .skip))))) (.seq (.reg [w 4 (.mv (.i (-1)))] []) .ret)))),res:=[(4,none)]}
end Go.Ev.K
namespace Go.Ev
class gM [Lib]:Prop where
 m6:Lib.fs N.ez=some K.ez
 eZ:Lib.fs N.aX=some K.aX
 gl:Lib.fs N.bD=some K.bD
 gN:Lib.fs N.bW=some K.bW
 gO:Lib.fs N.cg=some K.cg
 iR:Lib.fs N.b7=some K.b7
 fC:Lib.fs N.bz=some K.bz
 ju:Lib.fs N.du=some K.du
 jv:Lib.fs N.dv=some K.dv
 jw:Lib.fs N.cD=some K.cD
 kd:Lib.fs N.cE=some K.cE
 lO:Lib.fs N.cL=some K.cL
 m7:Lib.fs N.eB=some K.eB
namespace K
variable [Lib] [gM]
theorem m6:Lib.fs N.ez=some K.ez:=gM.m6
theorem eZ:Lib.fs N.aX=some K.aX:=gM.eZ
theorem gl:Lib.fs N.bD=some K.bD:=gM.gl
theorem gN:Lib.fs N.bW=some K.bW:=gM.gN
theorem gO:Lib.fs N.cg=some K.cg:=gM.gO
theorem iR:Lib.fs N.b7=some K.b7:=gM.iR
theorem fC:Lib.fs N.bz=some K.bz:=gM.fC
theorem ju:Lib.fs N.du=some K.du:=gM.ju
theorem jv:Lib.fs N.dv=some K.dv:=gM.jv
theorem jw:Lib.fs N.cD=some K.cD:=gM.jw
theorem kd:Lib.fs N.cE=some K.cE:=gM.kd
theorem lO:Lib.fs N.cL=some K.cL:=gM.lO
theorem m7:Lib.fs N.eB=some K.eB:=gM.m7
end K
end Go.Ev
namespace Go.Ev.K
open Go.Ev
def aK:Fn:={ nargs:=2,vars:=[0,1,2,3],body:=(.seq (.reg [w 2 (.bx v0 4),w 3 (.mv (.b false))] []) (.seq (.reg [f 0 v2,g l0,u (.ln l0),u (.bin .eql l0 (.i 0)),m l0,y 0 false (.fa v2 0),y 1 false (.ld l0 1 false),y 2 false (.fa v1 0),y 3 false (.ld l0 1 false),y 4 false (.ln l0),y 5 false (.bin .sub l0 (.i 1)),y 6 false (.ca N.bU 0 [] [.l 4,.i 0,.l 0]),y 7 false (.un .not l0),u (.pk l8 (.b true) l0),m l0,y 0 false (.fa v2 1),y 1 false (.ld l0 1 false),y 2 false (.ca N.ba 0 [] [.l 0,.i 1,.i 600]),y 3 false (.un .not l0),u (.pk l4 (.b true) l0),m l0,y 0 false (.fa v2 2),y 1 false (.ld l0 1 false),y 2 false (.ca N.ba 0 [] [.l 0,.i 0,.i 10]),y 3 false (.un .not l0),u (.pk l4 (.b true) l0),m l0,y 0 false (.fa v2 3),y 1 false (.ld l0 1 false),y 2 false (.ca N.ba 0 [] [.l 0,.i 0,.i 60]),y 3 false (.un .not l0),u (.pk l4 (.b true) l0),w 3 (.mv l0)] []) .ret)),res:=[(3,none)]}
def ae:Fn:={ nargs:=2,vars:=[0,1,4],body:=(.seq (.reg [w 2 (.mv (.b false))] []) (.seq (.reg [m v0,m v1,u (.ca N.ah 0 [] [.l 1,.l 0]),u (.bin .geq l0 (.i 0)),w 2 (.mv l0)] []) .ret)),res:=[(2,none)]}
def aj:Fn:={ nargs:=1,vars:=[0,2],body:=(.seq (.reg [w 1 (.mv (.c (.nil)))] []) (.itk [m v0,u (.eqk (.sl) false l0 (.c (.nil)))] [] 0 (.seq (.reg [w 1 (.nw 3)] []) .ret) .skip (.seq (.reg [u (.bsr [] 3),m v0,u (.app l1 l0 false 3),w 1 (.mv l0)] []) .ret))),res:=[(1,none)]}
def cF:Fn:={ nargs:=3,vars:=[0,1,2,4],body:=(.seq (.reg [w 3 (.mv (.b false))] []) (.seq (.reg [m v0,f 5 v1,g l0,g v2,a 4 l1 l0,f 2 l0,g l0,u (.ca N.ba 0 [] [.l 6,.i 0,.l 0]),u (.un .not l0),w 3 (.mv l0)] []) .ret)),res:=[(3,none)]}
def au:Fn:={ nargs:=2,vars:=[0,1,4],body:=(.seq (.reg [w 2 (.mv (.b false))] []) (.seq (.reg [m v0,m v1,u (.ca N.ay 0 [] [.l 1,.l 0]),u (.bin .geq l0 (.i 0)),w 2 (.mv l0)] []) .ret)),res:=[(2,none)]}
def cG:Fn:={ nargs:=2,vars:=[0,1,2,3],body:=(.seq (.reg [w 2 (.bx v0 3),w 3 (.mv (.b false))] []) (.seq (.reg [f 0 v1,h 2 l0,h 3 v2,u (.ca N.cH 0 [] [.l 1,.l 0]),u (.un .not l0),w 3 (.mv l0)] []) .ret)),res:=[(3,none)]}
def cH:Fn:={ nargs:=2,vars:=[0,1,2,3,4],body:=(.seq (.reg [w 2 (.bx v0 2),w 3 (.bx v1 3),w 4 (.mv (.b false))] []) (.seq (.blk 0 (.ite [f 0 v3,g l0,f 0 v2,g l0,u (.ln l0),u (.bin .sub l0 (.i 1)),u (.ca N.ba 0 [] [.l 4,.i 0,.l 0]),u (.un .not l0),m l0] [] 0 (.seq (.reg [w 4 (.mv (.b false))] []) .ret) (.ite [f 1 v3,g l0,u (.bin .eql l0 (.i (-1))),m l0] [] 0 (.seq (.reg [f 2 v3,g l0,u (.bin .eql l0 (.i 0)),w 4 (.mv l0)] []) .ret) .skip))) (.seq (.reg [h 2 v2,f 1 v3,g l0,f 0 v3,g l0,u (.ca N.cE 0 [] [.l 4,.l 2,.l 0]),u (.bin .geq l0 (.i 0)),m l0,y 0 true (.fa v3 2),y 1 true (.ld l0 1 false),y 2 true (.ca N.ba 0 [] [.l 0,.i 1,.i 2147483648]),u (.pk l3 l0 (.b false)),w 4 (.mv l0)] []) .ret))),res:=[(4,none)]}
def aH:C:=(.its [u (.bin .lss v5 v4)] [] 0 .skip (.exit 0) (.seq (.blk 1 (.seq (.reg [m v5,w 3 (.mv l0)] []) (.ite [m v1,m v0,m v3,a 4 l1 l0,h 4 l0,u (.cw l4 0 [] [.l 0])] [] 0 (.seq (.reg [m v3,w 2 (.mv l0)] []) .ret) .skip))) (.reg [u (.bin .add v5 (.i 1)),w 5 (.mv l0)] [])))
def bA:C:= .loop true [2,3] K.aH
def ah:Fn:={ nargs:=2,vars:=[0,1,4,5,7,8],body:=(.seq (.reg [w 2 (.mv (.i 0))] []) (.seq (.seq (.reg [m v0,w 4 (.ln l0),w 5 (.mv (.i 0))] []) (.blk 0 K.bA)) (.seq (.reg [w 2 (.mv (.i (-1)))] []) .ret))),res:=[(2,none)]}
def dk:C:=(.its [u (.bin .lss v5 v4)] [] 0 .skip (.exit 0) (.seq (.blk 1 (.seq (.reg [m v5,w 3 (.mv l0)] []) (.ite [m v1,m v0,m v3,a 3 l1 l0,h 3 l0,u (.cw l4 0 [] [.l 0])] [] 0 (.seq (.reg [m v3,w 2 (.mv l0)] []) .ret) .skip))) (.reg [u (.bin .add v5 (.i 1)),w 5 (.mv l0)] [])))
def dz:C:= .loop true [2,3] K.dk
def ay:Fn:={ nargs:=2,vars:=[0,1,4,5,7,8],body:=(.seq (.reg [w 2 (.mv (.i 0))] []) (.seq (.seq (.reg [m v0,w 4 (.ln l0),w 5 (.mv (.i 0))] []) (.blk 0 K.dz)) (.seq (.reg [w 2 (.mv (.i (-1)))] []) .ret))),res:=[(2,none)]}
def kC:C:=(.its [u (.bin .lss v8 v7)] [] 0 .skip (.exit 0) (.seq (.blk 1 (.seq (.reg [a 4 v6 v8,h 4 l0,w 4 (.al [.nil,.t (.int .i64 (0)),.t (.int .i64 (0)),.t (.int .i64 (0))] []),u (.st l0 l1 4 [])] []) (.seq (.reg [f 0 v4,g l0,u (.ca N.ai 0 [] [.l 0]),f 0 v4,u (.st l0 l1 1 [])] []) (.reg [f 5 v3,g l0,h 4 v4,u (.bs [.l 0] 4),u (.app l2 l0 true 4),f 5 v3,u (.st l0 l1 1 [])] [])))) (.reg [u (.bin .add v8 (.i 1)),w 8 (.mv l0)] [])))
def lQ:C:= .loop true [0,4,5,9,10,11] K.kC
def kD:C:=(.its [u (.bin .lss v11 v10)] [] 0 .skip (.exit 2) (.seq (.blk 3 (.seq (.reg [a 1 v9 v11,g l0,w 5 (.mv l0)] []) (.reg [f 8 v3,g l0,m v5,u (.ca N.ai 0 [] [.l 0]),u (.bs [.l 0] 1),u (.app l3 l0 true 1),f 8 v3,u (.st l0 l1 1 [])] [(1,4),(1,5)]))) (.reg [u (.bin .add v11 (.i 1)),w 11 (.mv l0)] [])))
def lS:C:= .loop true [0,1,4,5,6,7,8] K.kD
def bL:Fn:={ nargs:=1,vars:=[0,1,2,3,5,7,29,30,31,56,57,58],body:=(.seq (.reg [w 1 (.bx v0 9),w 2 (.al [.nil,.nil,.t (.int .i64 (0)),.nil,.nil,.nil,.nil,.nil,.nil] [])] []) (.seq (.reg [h 9 v1,w 3 (.al [.nil,.nil,.t (.int .i64 (0)),.nil,.nil,.nil,.nil,.nil,.nil] [(5,4),(8,1)]),u (.st l0 l1 9 [])] []) (.seq (.reg [f 0 v1,f 0 l0,g l0,u (.ca N.ak 0 [] [.l 0]),f 0 v1,f 1 l0,g l0,u (.ca N.ao 0 [] [.l 0]),u (.bd [.nil,.nil] [(0,1,.l 4),(1,1,.l 0)]),f 0 v3,u (.st l0 l1 2 [])] [(6,0)]) (.seq (.reg [f 3 v1,g l0,u (.ca N.aj 1 [] [.l 0]),f 4 v1,g l0,u (.ca N.ai 0 [] [.l 0]),f 3 v3,u (.st l0 l4 1 []),f 4 v3,u (.st l0 l3 1 [])] [(4,0)]) (.seq (.reg [f 5 v3,u (.st l0 (.c (.nil)) 1 [(5,4)])] []) (.seq (.seq (.reg [f 5 v1,w 6 (.ld l0 1 false),w 7 (.ln l0),w 8 (.mv (.i 0))] []) (.blk 0 K.lQ)) (.seq (.reg [f 6 v1,g l0,u (.ca N.ai 0 [] [.l 0]),f 7 v1,g l0,u (.ca N.ai 0 [] [.l 0]),f 6 v3,u (.st l0 l4 1 []),f 7 v3,u (.st l0 l3 1 [])] [(4,0)]) (.seq (.reg [f 8 v3,u (.st l0 (.c (.nil)) 1 [(8,1)])] []) (.seq (.seq (.reg [f 8 v1,w 9 (.ld l0 1 false),w 10 (.ln l0),w 11 (.mv (.i 0))] []) (.blk 2 K.lS)) (.seq (.reg [h 9 v3,u (.st v2 l0 9 [])] []) .ret)))))))))),res:=[(2,some (9,true))]}
def kE:C:=(.its [u (.bin .lss v8 v7)] [] 0 .skip (.exit 0) (.seq (.blk 1 (.seq (.reg [a 4 v6 v8,h 4 l0,w 4 (.al [.nil,.t (.int .i64 (0)),.t (.int .i64 (0)),.t (.int .i64 (0))] []),u (.st l0 l1 4 [])] []) (.seq (.reg [f 0 v4,g l0,u (.ca N.ai 0 [] [.l 0]),f 0 v4,u (.st l0 l1 1 [])] []) (.reg [f 5 v3,g l0,h 4 v4,u (.bsr [.l 0] 4),u (.app l2 l0 false 4),f 5 v3,u (.st l0 l1 1 [])] [])))) (.reg [u (.bin .add v8 (.i 1)),w 8 (.mv l0)] [])))
def lT:C:= .loop false [0,4,5,9,10,11] K.kE
def kF:C:=(.its [u (.bin .lss v11 v10)] [] 0 .skip (.exit 2) (.seq (.blk 3 (.seq (.reg [a 1 v9 v11,g l0,w 5 (.mv l0)] []) (.reg [f 8 v3,g l0,m v5,u (.ca N.ai 1 [] [.l 0]),u (.bsr [.l 0] 1),u (.app l3 l0 false 1),f 8 v3,u (.st l0 l1 1 [])] [(1,4),(1,5)]))) (.reg [u (.bin .add v11 (.i 1)),w 11 (.mv l0)] [])))
def lU:C:= .loop false [0,1,4,5,6,7,8] K.kF
def bX:Fn:={ nargs:=1,vars:=[0,1,2,3,5,7,29,30,31,56,57,58],body:=(.seq (.reg [w 1 (.bx v0 9),w 2 (.al [.nil,.nil,.t (.int .i64 (0)),.nil,.nil,.nil,.nil,.nil,.nil] [])] []) (.seq (.reg [h 9 v1,w 3 (.al [.nil,.nil,.t (.int .i64 (0)),.nil,.nil,.nil,.nil,.nil,.nil] [(5,4),(8,1)]),u (.st l0 l1 9 [])] []) (.seq (.reg [f 0 v1,f 0 l0,g l0,u (.ca N.ak 0 [] [.l 0]),f 0 v1,f 1 l0,g l0,u (.ca N.ao 0 [] [.l 0]),u (.bd [.nil,.nil] [(0,1,.l 4),(1,1,.l 0)]),f 0 v3,u (.st l0 l1 2 [])] [(6,0)]) (.seq (.reg [f 3 v1,g l0,u (.ca N.aj 0 [] [.l 0]),f 4 v1,g l0,u (.ca N.ai 0 [] [.l 0]),f 3 v3,u (.st l0 l4 1 []),f 4 v3,u (.st l0 l3 1 [])] [(4,0)]) (.seq (.reg [f 5 v3,u (.st l0 (.c (.nil)) 1 [(5,4)])] []) (.seq (.seq (.reg [f 5 v1,w 6 (.ld l0 1 false),w 7 (.ln l0),w 8 (.mv (.i 0))] []) (.blk 0 K.lT)) (.seq (.reg [f 6 v1,g l0,u (.ca N.ai 1 [] [.l 0]),f 7 v1,g l0,u (.ca N.ai 1 [] [.l 0]),f 6 v3,u (.st l0 l4 1 []),f 7 v3,u (.st l0 l3 1 [])] [(4,0)]) (.seq (.reg [f 8 v3,u (.st l0 (.c (.nil)) 1 [(8,1)])] []) (.seq (.seq (.reg [f 8 v1,w 9 (.ld l0 1 false),w 10 (.ln l0),w 11 (.mv (.i 0))] []) (.blk 2 K.lU)) (.seq (.reg [h 9 v3,u (.st v2 l0 9 [])] []) .ret)))))))))),res:=[(2,some (9,true))]}
end Go.Ev.K
namespace Go.Ev
class iS [Lib]:Prop where
 eo:Lib.fs N.aK=some K.aK
 aL:Lib.fs N.ae=some K.ae
 bB:Lib.fs N.aj=some K.aj
 jx:Lib.fs N.cF=some K.cF
 bN:Lib.fs N.au=some K.au
 jy:Lib.fs N.cG=some K.cG
 jz:Lib.fs N.cH=some K.cH
 aS:Lib.fs N.ah=some K.ah
 bS:Lib.fs N.ay=some K.ay
 ij:Lib.fs N.bL=some K.bL
 ik:Lib.fs N.bX=some K.bX
namespace K
variable [Lib] [iS]
theorem eo:Lib.fs N.aK=some K.aK:=iS.eo
theorem aL:Lib.fs N.ae=some K.ae:=iS.aL
theorem bB:Lib.fs N.aj=some K.aj:=iS.bB
theorem jx:Lib.fs N.cF=some K.cF:=iS.jx
theorem bN:Lib.fs N.au=some K.au:=iS.bN
theorem jy:Lib.fs N.cG=some K.cG:=iS.jy
theorem jz:Lib.fs N.cH=some K.cH:=iS.jz
theorem aS:Lib.fs N.ah=some K.ah:=iS.aS
theorem bS:Lib.fs N.ay=some K.ay:=iS.bS
theorem ij:Lib.fs N.bL=some K.bL:=iS.ij
theorem ik:Lib.fs N.bX=some K.bX:=iS.ik
end K
end Go.Ev
namespace Go.Ev
open Go
variable [Lib] [bq] [bu] [dw] [dr] [fe] [c9] [c8] [ew] [dU] [cC] [cZ] [fM] [fN] [kB] [iX] [jo] [gM] [iS]
structure Rdr where
 pl:List Int
 per:Int
 miss:Int
 skew:Int
instance : Dat Rdr := ⟨⟨[], 0, 0, 0⟩⟩
abbrev Rdr.e(r:Rdr):T:= .agg [tL r.pl,tI r.per,tI r.miss,tI r.skew]
structure Wlk where
 place:Int
 road:Int
 left:Int
instance : Dat Wlk := ⟨⟨0, 0, 0⟩⟩
abbrev Wlk.e(w:Wlk):T:= .agg [tI w.place,tI w.road,tI w.left]
structure Tru where
 rP:bP
 time:Int
 people:List Wlk
 tags:List Int
 readers:List Rdr
 numbers:List Int
 looked:List Int
 missed:List (List Int)
abbrev tLL(l:List (List Int)):T:= .sl (l.map fun x=> .sl (x.map (T.int .i64)))
abbrev Tru.cs(x:Tru):List T:=[.sl (x.rP.places.map Place.e),.sl (x.rP.roads.map Road.e),tI x.time,.sl (x.people.map Wlk.e),tL x.tags,.sl (x.readers.map Rdr.e),tL x.numbers,tL x.looked,tLL x.missed]
abbrev Tru.e(x:Tru):T:= .agg x.cs
structure Tru.sz(x:Tru):Prop where
 a:x.rP.places.length≤1000000
 b:x.rP.roads.length≤1000000
 c:x.people.length≤1000000
 d:x.tags.length≤1000000
 r:x.readers.length≤1000000
 r2:∀y∈x.readers,y.pl.length≤1000000
 n:x.numbers.length≤1000000
 l:x.looked.length≤1000000
 m:x.missed.length≤1000000
 m2:∀y∈x.missed,y.length≤1000000
@[go_sem] theorem CM (l : List Rdr) : aV 4 (l.map Rdr.e) = true := dL 4 _ (fun _ => rfl) l
@[go_sem] theorem Ms (l : List Rdr) : fJ 4 (l.map Rdr.e) = true := by cases l <;> rfl
@[go_sem] theorem CN (l : List Wlk) : aV 3 (l.map Wlk.e) = true := dL 3 _ (fun _ => rfl) l
@[go_sem] theorem Mt (l : List Wlk) : fJ 3 (l.map Wlk.e) = true := by cases l <;> rfl
@[go_sem] theorem GD (l : List (List Int)) : aV 1 (l.map fun x => T.sl (x.map (T.int .i64))) = true := dL 1 _ (fun _ => rfl) l
@[go_sem] theorem OX (l : List (List Int)) : fJ 1 (l.map fun x => T.sl (x.map (T.int .i64))) = true := by cases l <;> rfl
structure Be(n:Int)(r:Rdr):Prop where
 s:qI r.pl n=true
 l:r.pl.length≤64
 l1:1≤r.pl.length
 p1:1≤r.per
 p2:r.per≤30
 m1:0≤r.miss
 m2:r.miss≤2
 k1:0≤r.skew
 k2:r.skew≤5
abbrev rdH(e:aB)(m:bP)(l:List Rdr):ab:=[e.obj,.box (af m),.arr 4 false 0 ((l.map Rdr.e).map .t)]
def rdP(m:bP)(n:Int)(j:Nat)(st:St):Prop:=∃(e:aB) (l:List Rdr),e.bT∧l.length=j∧(∀r∈l,Be m.places.length r)∧st=⟨[.bp 0 0,.und,.bp 1 0,.und,.ref 2 0 l.length,I (n-j),.und],rdH e m l⟩
theorem yV{p n:Int}(h0:0≤p)(h1:p<n):qI [p] n=true:=by
 unfold qI
 simp only[List.length_singleton,List.all_eq_true,List.mem_range,decide_eq_true_eq]
 intro j hj
 obtain rfl:j=0:=by omega
 exact⟨h0,h1,fun h=>by omega⟩
theorem rZ{d:aB}(hd:d.bT){m:bP}(hm:m.ok)(h1:1≤m.places.length){n:Int}(n0:0≤n)(n3:n≤3):∃(e:aB) (l:List Rdr),e.bT∧l.length≤3∧(∀r∈l,Be m.places.length r)∧
 ∀z1 z3 z6:D,exS br K.fG ⟨[.bp 0 0,z1,.bp 1 0,z3,.ref 2 0 0,I n,z6],rdH d m []⟩=some (.exit 0,⟨[.bp 0 0,.und,.bp 1 0,.und,.ref 2 0 l.length,I 0,.und],rdH e m l⟩):=by
 have np:=hm.np
 have key:=A1 (gc:=true) (dead:=[1,3,6]) (c:=K.bg) (vs:=[.bp 0 0,.und,.bp 1 0,.und,.ref 2 0 0,I n,.und]) (H:=rdH d m [])
  (rdP m n) n.toNat (fun q=>∃(e:aB) (l:List Rdr),e.bT∧l.length=n.toNat∧(∀r∈l,Be m.places.length r)∧q=(.exit 0,⟨[.bp 0 0,.und,.bp 1 0,.und,.ref 2 0 l.length,I 0,.und],rdH e m l⟩))
  (by
   refine⟨d,[],hd,rfl,fun r hr=>(by cases hr),?_⟩
   simp only[eD,List.set_cons_zero,List.set_cons_succ,List.length_nil]
   rw[show n-((0:Nat):Int)=n by omega])
  (by
   rintro j st hj ⟨e,l,le,ll,lo,rfl⟩
   obtain⟨s,e1,s1,l1,sl,ss⟩:=Mr le m.places.length (by omega)
   obtain⟨o,e2,o1,l2,oi⟩:=RB l1 [9,29,4] (by simp) (by simp)
   obtain⟨k,e3,k1,l3,k0,k3⟩:=pV l2 3 (by omega) (by omega)
   obtain⟨w,e4,w1,l4,wi⟩:=RB l3 [0,1,5] (by simp) (by simp)
   have ob:4≤o∧o≤29:=by simp at oi;omega
   have wb:0≤w∧w≤5:=by simp at wi;omega
   simp only[tL,List.map_cons,List.map_nil]at o1 w1
   by_cases c:s.length=0
   · obtain⟨p,e5,p1,l5,p0,p9⟩:=pV l4 m.places.length (by omega) (by omega)
     refine⟨_,?_,e5,l++[⟨[p],1+o,k,w⟩],l5,by simp[ll],fun r hr=>?_,rfl⟩
     · have s0:s=[]:=List.eq_nil_of_length_eq_zero c
       subst s0
       obtain⟨places,roads⟩:=m
       simp only[af,rdH,List.map_nil,List.length_nil]at*
       rw[show n-((j+1:Nat):Int)=n-(j:Int)-1 by omega]
       simp (disch:=omega) only[go_sem,K.bg,↓reduceIte,s1,o1,k1,w1,p1,List.length_append,List.length_cons,List.length_nil,List.map_append,List.map_cons,List.map_nil,Nat.reduceAdd,Nat.reduceSub]
       rfl
     · rcases List.mem_append.1 hr with hr | hr
       · exact lo r hr
       · rw[List.mem_singleton.1 hr]
         exact⟨yV p0 p9,by simp,by simp,by simp only;omega,by simp only;omega,k0,by simp only;omega,wb.1,wb.2⟩
   · refine⟨_,?_,e4,l++[⟨s,1+o,k,w⟩],l4,by simp[ll],fun r hr=>?_,rfl⟩
     · obtain⟨places,roads⟩:=m
       simp only[af,rdH]at*
       rw[show n-((j+1:Nat):Int)=n-(j:Int)-1 by omega]
       simp (disch:=omega) only[go_sem,K.bg,↓reduceIte,s1,o1,k1,w1,c,List.length_append,List.length_cons,List.length_nil,List.map_append,List.map_cons,List.map_nil,Nat.reduceAdd,Nat.reduceSub]
     · rcases List.mem_append.1 hr with hr | hr
       · exact lo r hr
       · rw[List.mem_singleton.1 hr]
         exact⟨ss,by simp only;omega,by simp only;omega,by simp only;omega,by simp only;omega,k0,by simp only;omega,wb.1,wb.2⟩
   )
  (by
   rintro st ⟨e,l,le,ll,lo,rfl⟩
   refine⟨_,?_,?_,e,l,le,ll,lo,rfl⟩
   · rw[show n-(n.toNat:Int)=0 by omega]
     obtain⟨places,roads⟩:=m
     simp only[af,rdH]
     simp (disch:=omega) only[go_sem,K.bg,↓reduceIte,Nat.reduceAdd,Nat.reduceSub]
   · simp)
 obtain⟨q,k1,e,l,k2,k3,k4,rfl⟩:=key
 refine⟨e,l,k2,by omega,k4,fun z1 z3 z6=>?_⟩
 have k1:gA true [1,3,6] (exS br K.bg) ⟨[.bp 0 0,.und,.bp 1 0,.und,.ref 2 0 0,I n,.und],rdH d m []⟩=_:=k1
 exact xT (gc:=true) (dead:=[1,3,6]) (c:=K.bg) (vs:=[.bp 0 0,z1,.bp 1 0,z3,.ref 2 0 0,I n,z6]) k1
theorem yW{d:aB}(hd:d.bT){m:bP}(hm:m.ok)(h1:1≤m.places.length):∃(l:List Rdr) (e:aB),e.bT∧l.length≤3∧(∀r∈l,Be m.places.length r)∧
 br 0 N.aM [.bp 0 0,.t m.e] [d.obj]=some (.t (.sl (l.map Rdr.e)),[e.obj])∧br 1 N.aM [.bp 0 0,.t m.e] [d.obj]=some (.ref 1 0 l.length,[e.obj,.arr 4 false 0 ((l.map Rdr.e).map .t)]):=by
 obtain⟨n,e0,ne,l0,n0,n3⟩:=pV hd 4 (by omega) (by omega)
 obtain⟨e,l,le,ll,lo,lp⟩:=rZ l0 hm h1 n0 (by omega)
 refine⟨l,e,le,ll,lo,?_,?_⟩
 · refine aO K.dh rfl ?_
   obtain⟨places,roads⟩:=m
   simp only[af,rdH,List.map_nil]at*
   simp (disch:=omega) only[go_sem,K.aM,↓reduceIte,ne,lp,Nat.reduceAdd,Nat.reduceSub]
 · refine aO K.dh rfl ?_
   obtain⟨places,roads⟩:=m
   simp only[af,rdH,List.map_nil]at*
   simp (disch:=omega) only[go_sem,K.aM,↓reduceIte,ne,lp,Nat.reduceAdd,Nat.reduceSub]
theorem qx(l:List Rdr)(hl:l.length≤4294967296)(f:Nat)(bs:List (List T))(p:Rdr→Bool)(h:∀x,x∈l→br 0 f (.t x.e::dK bs.length) (aG bs)=some (B (p x),aG bs)):
 br 0 N.ah [.t (.sl (l.map Rdr.e)),.fn f (dK bs.length)] (aG bs)=
 some (I (match (List.range l.length).find? (fun j=>p (nth l j))with | some j=>(j:Int) | none=> -1),aG bs):=by
 refine aO K.aS rfl ?_
 have loop:∀a b:D,exS br K.bA ⟨[.t (.sl (l.map Rdr.e)),.fn f (dK bs.length),a,b,I l.length,I 0],aG bs⟩=
  some (match (List.range l.length).find? (fun j=>p (nth l j))with
   | some j=>(.ret,⟨[.t (.sl (l.map Rdr.e)),.fn f (dK bs.length),I j,I j,I l.length,I j],aG bs⟩)
   | none=>(.exit 0,⟨[.t (.sl (l.map Rdr.e)),.fn f (dK bs.length),.und,.und,I l.length,I l.length],aG bs⟩)):=by
  intro a b
  refine fP (fun j=>⟨[.t (.sl (l.map Rdr.e)),.fn f (dK bs.length),.und,.und,I l.length,I j],aG bs⟩) l.length (fun j=>p (nth l j)) _ _ rfl ?_ ?_ ?_ (by simp)
  · intro j hj hp
    have hc:=jM (h _ (bG hj)) rfl
    simp (disch:=omega) only[go_sem,K.aH,↓reduceIte,hc,hp]
  · intro j hj hp
    have hc:=jM (h _ (bG hj)) rfl
    simp (disch:=omega) only[go_sem,K.aH,↓reduceIte,hp,hc]
    simp
  · simp (disch:=omega) only[go_sem,K.aH,↓reduceIte]
 simp (disch:=omega) only[go_sem,K.ah,↓reduceIte,loop]
 cases hf:(List.range l.length).find? (fun j=>p (nth l j))with
 | some j=>simp (disch:=omega) only[go_sem,↓reduceIte]
 | none=>simp (disch:=omega) only[go_sem,↓reduceIte]
theorem nj(l:List Rdr)(hl:l.length≤4294967296)(f:Nat)(bs:List (List T))(p:Rdr→Bool)(h:∀x,x∈l→br 0 f (.t x.e::dK bs.length) (aG bs)=some (B (p x),aG bs)):
 br 0 N.ae [.t (.sl (l.map Rdr.e)),.fn f (dK bs.length)] (aG bs)=some (B (l.any p),aG bs):=by
 refine aO K.aL rfl ?_
 have h:=qx l hl f bs p h
 have hc:=pR br bs f _ 0 (.sl (l.map Rdr.e)) h rfl
 have e:=A2 (l:=l) (p:=p)
 cases hf:(List.range l.length).find? (fun j=>p (nth l j))with
 | some j=>rw[hf]at e hc;simp (disch:=omega) only[go_sem,K.ae,↓reduceIte,←e,hc]
 | none=>rw[hf]at e hc;simp (disch:=omega) only[go_sem,K.ae,↓reduceIte,←e,hc,Option.isSome_none]
def wQ(n:Int)(r:Rdr):Bool:= !(!decide (r.pl.length=0)&&qI r.pl n&&decide (1≤r.per∧r.per≤600)&&decide (0≤r.miss∧r.miss≤10)&&decide (0≤r.skew∧r.skew≤60))
def qy(m:bP)(l:List Rdr):Bool:=decide (l.length≤32)&& !(l.any (wQ m.places.length))
theorem GF(m:bP)(hp:m.places.length≤1000000)(r:Rdr)(hl:r.pl.length≤1000000):br 0 N.aK [.t r.e,.bp 0 0] [.box (af m)]=some (B (wQ m.places.length r),[.box (af m)]):=by
 refine aO K.eo rfl ?_
 have ri:=rO r.pl 0 ((m.places.length:Int)-1) (by omega)
 rw[Ft]at ri
 have i1:=vK r.per 1 600
 have i2:=vK r.miss 0 10
 have i3:=vK r.skew 0 60
 unfold wQ
 generalize qI r.pl m.places.length=b0 at*
 obtain⟨pl,per,miss,skew⟩:=r
 obtain⟨places,roads⟩:=m
 simp only[af]at*
 generalize decide (1≤per∧per≤600)=b1 at*
 generalize decide (0≤miss∧miss≤10)=b2 at*
 generalize decide (0≤skew∧skew≤60)=b3 at*
 by_cases c:pl.length=0
 · rw[c]
   simp (disch:=omega) only[go_sem,K.aK,↓reduceIte,c,decide_true,Bool.not_true,Bool.false_and,Bool.not_false,Nat.reduceAdd,Nat.reduceSub]
 · cases b0<;>cases b1<;>cases b2<;>cases b3
   all_goals simp (disch:=omega) only[go_sem,K.aK,↓reduceIte,c,ri,i1,i2,i3,decide_false,Bool.not_true,Bool.not_false,Bool.false_and,Bool.true_and,Bool.and_true,Bool.and_false,Bool.and_self,Nat.reduceAdd,Nat.reduceSub]
theorem GG(m:bP)(hp:m.places.length≤1000000)(l:List Rdr)(hl:l.length≤1000000)(h2:∀y∈l,y.pl.length≤1000000):br 0 N.ae [.t (.sl (l.map Rdr.e)),.fn N.aK [.bp 0 0]] [.box (af m)]=some (B (l.any (wQ m.places.length)),[.box (af m)]):=
 nj l (by omega) N.aK [[.sl (m.places.map Place.e),.sl (m.roads.map Road.e)]] (wQ m.places.length) (fun x hx=>GF m hp x (h2 x hx))
theorem wg{m:bP}(hm:m.ok)(l:List Rdr)(hl:l.length≤1000000)(h2:∀y∈l,y.pl.length≤1000000):br 0 N.aX [.t m.e,.t (.sl (l.map Rdr.e))] []=some (B (qy m l),[]):=by
 refine aO K.eZ rfl ?_
 have cf:=GG m (by have:=hm.np;omega) l hl h2
 have pv:=rX hm
 unfold qy
 generalize l.any (wQ m.places.length)=b at*
 obtain⟨places,roads⟩:=m
 simp only[af]at*
 by_cases c:l.length≤32
 · simp (disch:=omega) only[go_sem,K.aX,↓reduceIte,pv,cf,c,decide_true,Bool.true_and,Nat.reduceAdd,Nat.reduceSub]
 · simp (disch:=omega) only[go_sem,K.aX,↓reduceIte,pv,c,decide_false,Bool.false_and,Nat.reduceAdd,Nat.reduceSub]
theorem tJ{m:bP}(hm:m.ok)(l:List Rdr)(hl:l.length≤1000000)(h2:∀y∈l,y.pl.length≤1000000):br 0 N.b7 [.t m.e,.t (.sl (l.map Rdr.e))] []=some (B (qy m l),[]):=by
 refine aO K.iR rfl ?_
 have ck:=AA hm
 have np:=hm.np
 have nr:=hm.nr
 have lp:=fun z0 z3 z5:D=>lA (gc:=true) (dead:=[0,3,5]) (c:=K.aY) (vs:=[z0,.t (.sl (l.map Rdr.e)),.bp 0 0,z3,I 0,z5]) (H:=[.box (af m)])
  (fun j=>⟨[.und,.t (.sl (l.map Rdr.e)),.bp 0 0,.und,I j,.und],[.box (af m)]⟩) l.length (fun j=>wQ m.places.length (nth l j))
  (fun j=>(.ret,⟨[.und,.t (.sl (l.map Rdr.e)),.bp 0 0,B false,I j,.bp 1 0],[.box (af m),.box [.t (tL (nth l j).pl),I (nth l j).per,I (nth l j).miss,I (nth l j).skew]]⟩))
  (.exit 0,⟨[.und,.t (.sl (l.map Rdr.e)),.bp 0 0,.und,I l.length,.und],[.box (af m)]⟩) rfl
  (fun j hj hq=>by
   have ex:(l.map Rdr.e)[j]?=some (nth l j).e:=cX _ hj
   have st:=B3 (nth l j).pl m.places.length (by have:=h2 _ (bG hj);omega)
   simp only[wQ,Bool.not_eq_false',Bool.and_eq_true,Bool.not_eq_true',decide_eq_false_iff_not,decide_eq_true_eq]at hq
   obtain⟨⟨⟨⟨q0,q1⟩,q2⟩,q3⟩,q4⟩:=hq
   rw[q1]at st
   have:=h2 _ (bG hj)
   generalize nth l j=r at*
   obtain⟨pl,per,miss,skew⟩:=r
   simp only at*
   obtain⟨places,roads⟩:=m
   simp only[af]at*
   simp (disch:=omega) only[go_sem,K.aY,↓reduceIte,ex,st,q0,Nat.reduceAdd,Nat.reduceSub]
   )
  (fun j hj hq=>by
   have ex:(l.map Rdr.e)[j]?=some (nth l j).e:=cX _ hj
   have st:=B3 (nth l j).pl m.places.length (by have:=h2 _ (bG hj);omega)
   have:=h2 _ (bG hj)
   unfold wQ at hq
   generalize qI (nth l j).pl m.places.length=b0 at*
   generalize nth l j=r at*
   obtain⟨pl,per,miss,skew⟩:=r
   simp only at*
   obtain⟨places,roads⟩:=m
   simp only[af]at*
   refine⟨?_,by simp⟩
   by_cases c:pl.length=0
   · simp (disch:=omega) only[go_sem,K.aY,↓reduceIte,ex,c,Nat.reduceAdd,Nat.reduceSub]
   · cases b0 with
     | false=>simp (disch:=omega) only[go_sem,K.aY,↓reduceIte,ex,st,c,Nat.reduceAdd,Nat.reduceSub]
     | true=>
       by_cases a0:1≤per
       · by_cases a1:per≤600
         · by_cases a2:0≤miss
           · by_cases a3:miss≤10
             · by_cases a4:0≤skew
               · by_cases a5:skew≤60
                 · exact absurd hq (by simp[c,a0,a1,a2,a3,a4,a5])
                 · simp (disch:=omega) only[go_sem,K.aY,↓reduceIte,ex,st,c,a0,a1,a2,a3,a4,a5,Nat.reduceAdd,Nat.reduceSub]
               · simp (disch:=omega) only[go_sem,K.aY,↓reduceIte,ex,st,c,a0,a1,a2,a3,a4,Nat.reduceAdd,Nat.reduceSub]
             · simp (disch:=omega) only[go_sem,K.aY,↓reduceIte,ex,st,c,a0,a1,a2,a3,Nat.reduceAdd,Nat.reduceSub]
           · simp (disch:=omega) only[go_sem,K.aY,↓reduceIte,ex,st,c,a0,a1,a2,Nat.reduceAdd,Nat.reduceSub]
         · simp (disch:=omega) only[go_sem,K.aY,↓reduceIte,ex,st,c,a0,a1,Nat.reduceAdd,Nat.reduceSub]
       · simp (disch:=omega) only[go_sem,K.aY,↓reduceIte,ex,st,c,a0,Nat.reduceAdd,Nat.reduceSub]
   )
  (by
   obtain⟨places,roads⟩:=m
   simp only[af]
   simp (disch:=omega) only[go_sem,K.aY,↓reduceIte,Nat.reduceAdd,Nat.reduceSub]
   ) (by simp)
 have lp2:∀z0 z3 z5:D,exS br K.kc _=_:=lp
 clear lp
 unfold qy
 rw[← xY l (wQ m.places.length)]
 cases hq:(List.range l.length).any (fun j=>wQ m.places.length (nth l j))with
 | true=>
   rw[hq]at lp2
   simp only[if_true]at lp2
   generalize oH l.length (fun j=>wQ m.places.length (nth l j))=j at*
   obtain⟨places,roads⟩:=m
   simp only[af,Bool.not_true,Bool.and_false]at*
   simp (disch:=omega) only[go_sem,K.b7,↓reduceIte,lp2,Nat.reduceAdd,Nat.reduceSub]
 | false=>
   rw[hq]at lp2
   simp only[Bool.false_eq_true,if_false]at lp2
   obtain⟨places,roads⟩:=m
   simp only[af,Bool.not_false,Bool.and_true]at*
   by_cases c:l.length≤32
   · simp (disch:=omega) only[go_sem,K.b7,↓reduceIte,lp2,ck,c,decide_true,Nat.reduceAdd,Nat.reduceSub]
   · simp (disch:=omega) only[go_sem,K.b7,↓reduceIte,lp2,ck,c,decide_false,Nat.reduceAdd,Nat.reduceSub]
theorem wj(l:List Int)(hl:l.length≤1000000):br 0 N.bW [.t (tL l)] []=some (B (ei l),[]):=by
 refine aO K.gN rfl ?_
 have v:=yK l
 have s:=yL l hl
 have r:=rO (fR l) 1 65535 (by rw[ib];omega)
 rw[wa]at r
 simp (disch:=omega) only[go_sem,K.bW,↓reduceIte,v,s,r,Nat.reduceAdd,Nat.reduceSub]
def Jf(l:List Int)(j:Nat):Bool:=decide (nth l j<1∨65535<nth l j∨nth l j∈l.take j)
theorem wk(l:List Int):(!(List.range l.length).any (Jf l))=ei l:=by
 rw[Bool.eq_iff_iff,oU]
 simp only[Bool.not_eq_true',List.any_eq_false,List.mem_range,Jf,decide_eq_true_eq,not_or,Int.not_lt]
 constructor
 · intro h
   refine⟨?_,fun x hx=>?_⟩
   · rw[List.Nodup,List.pairwise_iff_getElem]
     intro i j hi hj hij e
     have:=(h j hj).2.2
     apply this
     rw[eR (List.getElem?_eq_getElem hj),←e]
     exact List.mem_of_getElem? (show(l.take j)[i]?=some l[i]by rw[List.getElem?_take,if_pos hij];exact List.getElem?_eq_getElem hi)
   · obtain⟨j,hj,rfl⟩:=List.getElem_of_mem hx
     have:=h j hj
     rw[eR (List.getElem?_eq_getElem hj)]at this
     exact⟨this.1,this.2.1⟩
 · rintro ⟨h1,h2⟩ j hj
   have:=h2 _ (bG hj)
   refine⟨this.1,this.2,fun hm=>?_⟩
   obtain⟨i,hi⟩:=List.mem_iff_getElem?.1 hm
   have il:=(List.getElem?_eq_some_iff.1 hi).1
   rw[List.length_take]at il
   rw[List.getElem?_take,if_pos (by omega)]at hi
   have:=List.pairwise_iff_getElem.1 h1 i j (by omega) hj (by omega)
   apply this
   have a:=eR hi
   rw[eR (List.getElem?_eq_getElem (by omega:i<l.length))]at a
   rw[a,eR (List.getElem?_eq_getElem hj)]
theorem tK(l:List Int)(hl:l.length≤1000000):br 0 N.bz [.t (tL l)] []=some (B (ei l),[]):=by
 refine aO K.fC rfl ?_
 rw[← wk]
 have lp:=fun z1:D=>lA (gc:=true) (dead:=[1]) (c:=K.bM) (vs:=[.t (tL l),z1,I 0]) (H:=[])
  (fun j=>⟨[.t (tL l),.und,I j],[]⟩) l.length (Jf l) (fun j=>(.ret,⟨[.t (tL l),B false,I j],[]⟩)) (.exit 0,⟨[.t (tL l),.und,I l.length],[]⟩) rfl
  (fun j hj hq=>by
   have h:=B2 (l.take j) (nth l j) (by rw[List.length_take];omega)
   have tk:(l.map (T.int .i64)).take j=(l.take j).map (T.int .i64):=(List.map_take ..).symm
   unfold Jf at hq
   have hq:=of_decide_eq_false hq
   have c3:¬nth l j∈l.take j:=fun x=>hq (.inr (.inr x))
   rw[decide_eq_false c3]at h
   simp (disch:=omega) only[go_sem,K.bM,↓reduceIte,h,tk,Nat.reduceAdd,Nat.reduceSub]
   )
  (fun j hj hq=>by
   have h:=B2 (l.take j) (nth l j) (by rw[List.length_take];omega)
   have tk:(l.map (T.int .i64)).take j=(l.take j).map (T.int .i64):=(List.map_take ..).symm
   unfold Jf at hq
   have hq:=of_decide_eq_true hq
   refine⟨?_,by simp⟩
   by_cases c1:nth l j<1
   · simp (disch:=omega) only[go_sem,K.bM,↓reduceIte,c1,Nat.reduceAdd,Nat.reduceSub]
   · by_cases c2:65535<nth l j
     · simp (disch:=omega) only[go_sem,K.bM,↓reduceIte,c1,c2,Nat.reduceAdd,Nat.reduceSub]
     · have c3:nth l j∈l.take j:=by
        rcases hq with a | a | a
        · omega
        · omega
        · exact a
       rw[decide_eq_true c3]at h
       simp (disch:=omega) only[go_sem,K.bM,↓reduceIte,c1,c2,h,tk,Nat.reduceAdd,Nat.reduceSub]
   )
  (by simp (disch:=omega) only[go_sem,K.bM,↓reduceIte,Nat.reduceAdd,Nat.reduceSub]
   ) (by simp)
 have lp2:∀z1:D,exS br K.ig _=_:=lp
 clear lp
 cases hq:(List.range l.length).any (Jf l)with
 | true=>
   rw[hq]at lp2
   simp only[if_true]at lp2
   simp (disch:=omega) only[go_sem,K.bz,↓reduceIte,lp2,Bool.not_true,Nat.reduceAdd,Nat.reduceSub]
 | false=>
   rw[hq]at lp2
   simp only[Bool.false_eq_true,if_false]at lp2
   simp (disch:=omega) only[go_sem,K.bz,↓reduceIte,lp2,Bool.not_false,Nat.reduceAdd,Nat.reduceSub]
theorem tM(m:bP)(hp:m.places.length≤1000000)(hr:m.roads.length≤1000000):br 0 N.bI [.t m.e,.t m.e] []=some (B true,[]):=by
 refine aO K.fy rfl ?_
 have l1:∀z0 z1 z4 z6:D,exS br K.ic ⟨[z0,z1,.bp 0 0,.bp 1 0,z4,I 0,z6],[.box (af m),.box (af m)]⟩=
  some (.exit 0,⟨[.und,.und,.bp 0 0,.bp 1 0,.und,I m.places.length,.und],[.box (af m),.box (af m)]⟩):=by
  intro z0 z1 z4 z6
  refine cW (fun j=>⟨[.und,.und,.bp 0 0,.bp 1 0,.und,I j,.und],[.box (af m),.box (af m)]⟩) m.places.length rfl ?_ ?_ (by simp)
  · intro j hj
    have ex:(m.places.map Place.e)[j]?=some (nth m.places j).e:=cX _ hj
    generalize nth m.places j=x at*
    obtain⟨h,s⟩:=x
    obtain⟨places,roads⟩:=m
    simp only[af]at*
    simp (disch:=omega) only[go_sem,K.eL,↓reduceIte,ex,decide_true,Bool.and_self,Bool.not_true,Nat.reduceAdd,Nat.reduceSub]
  · obtain⟨places,roads⟩:=m
    simp only[af]at*
    simp (disch:=omega) only[go_sem,K.eL,↓reduceIte,Nat.reduceAdd,Nat.reduceSub]
 have l2:∀z0 z1 z4 z5:D,exS br K.ie ⟨[z0,z1,.bp 0 0,.bp 1 0,z4,z5,I 0],[.box (af m),.box (af m)]⟩=
  some (.exit 2,⟨[.und,.und,.bp 0 0,.bp 1 0,.und,.und,I m.roads.length],[.box (af m),.box (af m)]⟩):=by
  intro z0 z1 z4 z5
  refine cW (fun j=>⟨[.und,.und,.bp 0 0,.bp 1 0,.und,.und,I j],[.box (af m),.box (af m)]⟩) m.roads.length rfl ?_ ?_ (by simp)
  · intro j hj
    have ex:(m.roads.map Road.e)[j]?=some (nth m.roads j).e:=cX _ hj
    generalize nth m.roads j=x at*
    obtain⟨frm,to,len,ar,walk,closed,rl,rh,ll,lh⟩:=x
    obtain⟨places,roads⟩:=m
    simp only[af]at*
    simp (disch:=omega) only[go_sem,K.eM,↓reduceIte,ex,decide_true,Bool.and_self,Bool.not_true,Nat.reduceAdd,Nat.reduceSub]
  · obtain⟨places,roads⟩:=m
    simp only[af]at*
    simp (disch:=omega) only[go_sem,K.eM,↓reduceIte,Nat.reduceAdd,Nat.reduceSub]
 obtain⟨places,roads⟩:=m
 simp only[af]at*
 simp (disch:=omega) only[go_sem,K.bI,↓reduceIte,l1,l2,Nat.reduceAdd,Nat.reduceSub]
theorem tN(l:List Road)(hl:l.length≤1000000):br 0 N.ao [.t (.sl (l.map Road.e))] []=some (.t (.sl (l.map Road.e)),[]):=by
 refine aO K.bQ rfl ?_
 by_cases h0:l=[]
 · subst h0
   simp only[List.map_nil]
   simp (disch:=omega) only[go_sem,K.ao,↓reduceIte,List.map_nil,Nat.reduceAdd,Nat.reduceSub]
 · have e:=fun H=>nH H (l.map Road.e) (by simpa using h0)
   simp (disch:=omega) only[go_sem,K.ao,↓reduceIte,e,Nat.reduceAdd,Nat.reduceSub]
theorem tO(l:List Wlk)(hl:l.length≤1000000):br 0 N.aj [.t (.sl (l.map Wlk.e))] []=some (.t (.sl (l.map Wlk.e)),[]):=by
 refine aO K.bB rfl ?_
 by_cases h0:l=[]
 · subst h0
   simp only[List.map_nil]
   simp (disch:=omega) only[go_sem,K.aj,↓reduceIte,List.map_nil,Nat.reduceAdd,Nat.reduceSub]
 · have e:=fun H=>nH H (l.map Wlk.e) (by simpa using h0)
   simp (disch:=omega) only[go_sem,K.aj,↓reduceIte,e,Nat.reduceAdd,Nat.reduceSub]
abbrev dA:List D:=[.nil,.nil,I 0,.nil,.nil,.nil,.nil,.nil,.nil]
abbrev LLe(x:List Int):T:= .sl (x.map (T.int .i64))
theorem tP(x:Tru)(h:x.sz):br 0 N.cg [.t x.e] []=some (.t x.e,[]):=by
 refine aO K.gO rfl ?_
 obtain⟨a,b,c,d,r,r2,n,l,m,m2⟩:=h
 obtain⟨⟨places,roads⟩,time,people,tags,readers,numbers,looked,missed⟩:=x
 simp only at*
 have c1:=we places a
 have c2:=tN roads b
 have c3:=tO people c
 have c4:=jn tags d
 have c5:=jn numbers n
 have c6:=jn looked l
 simp only[tL]at c4 c5 c6
 have tk1:readers.take readers.length=readers:=List.take_length
 have tk2:missed.take missed.length=missed:=List.take_length
 have lp1:∀z0 z4 z5 z9_ z10 z11:D,exS br K.jr ⟨[z0,.bp 0 0,.bp 1 0,.bp 2 0,z4,z5,.t (.sl (readers.map Rdr.e)),I readers.length,I 0,z9_,z10,z11],[.box ((Tru.cs ⟨⟨places,roads⟩,time,people,tags,readers,numbers,looked,missed⟩).map .t),.box dA,.box [.t (.sl (places.map Place.e)),.t (.sl (roads.map Road.e)),I time,.t (.sl (people.map Wlk.e)),.t (tL tags),.ref 5 0 0,.t (tL numbers),.t (tL looked),.t (tLL missed)],.arr 4 false 0 [],.arr 1 false 0 [],.arr 4 false 0 []]⟩=
  some (.exit 0,⟨[.und,.bp 0 0,.bp 1 0,.bp 2 0,.und,.und,.t (.sl (readers.map Rdr.e)),I readers.length,I readers.length,.und,.und,.und],[.box ((Tru.cs ⟨⟨places,roads⟩,time,people,tags,readers,numbers,looked,missed⟩).map .t),.box dA,.box [.t (.sl (places.map Place.e)),.t (.sl (roads.map Road.e)),I time,.t (.sl (people.map Wlk.e)),.t (tL tags),.ref 5 0 readers.length,.t (tL numbers),.t (tL looked),.t (tLL missed)],.arr 4 false 0 [],.arr 1 false 0 [],.arr 4 false 0 ((readers.map Rdr.e).map .t)]⟩):=by
  intro z0 z4 z5 z9_ z10 z11
  refine cW (fun j=>⟨[.und,.bp 0 0,.bp 1 0,.bp 2 0,.und,.und,.t (.sl (readers.map Rdr.e)),I readers.length,I j,.und,.und,.und],[.box ((Tru.cs ⟨⟨places,roads⟩,time,people,tags,readers,numbers,looked,missed⟩).map .t),.box dA,.box [.t (.sl (places.map Place.e)),.t (.sl (roads.map Road.e)),I time,.t (.sl (people.map Wlk.e)),.t (tL tags),.ref 5 0 (readers.take j).length,.t (tL numbers),.t (tL looked),.t (tLL missed)],.arr 4 false 0 [],.arr 1 false 0 [],.arr 4 false 0 (((readers.take j).map Rdr.e).map .t)]⟩) readers.length rfl ?_ ?_ (by simp)
  · intro j hj
    have ex:(readers.map Rdr.e)[j]?=some (nth readers j).e:=cX _ hj
    have cl:=jn (nth readers j).pl (r2 _ (bG hj))
    have tk:=jL hj
    have tl:(readers.take j).length=j:=by rw[List.length_take];omega
    have tl2:(readers.take (j+1)).length=j+1:=by rw[List.length_take];omega
    rw[tl2,tk]
    generalize readers.take j=q at*
    generalize nth readers j=y at*
    obtain⟨pl,per,miss,skew⟩:=y
    simp only[Tru.cs,dA,List.map_cons,List.map_nil,tL]at*
    simp (disch:=omega) only[go_sem,K.fA,↓reduceIte,ex,cl,tl,List.map_append,List.map_cons,List.map_nil,Nat.reduceAdd,Nat.reduceSub]
  · rw[tk1]
    simp only[Tru.cs,dA,List.map_cons,List.map_nil]
    simp (disch:=omega) only[go_sem,K.fA,↓reduceIte,Nat.reduceAdd,Nat.reduceSub]
 have lp2:∀z0 z1 z4 z5 z6 z7 z8:D,∀X:List D,exS br K.jt ⟨[z0,z1,.bp 1 0,.bp 2 0,z4,z5,z6,z7,z8,.t (tLL missed),I missed.length,I 0],[.box ((Tru.cs ⟨⟨places,roads⟩,time,people,tags,readers,numbers,looked,missed⟩).map .t),.box dA,.box [.t (.sl (places.map Place.e)),.t (.sl (roads.map Road.e)),I time,.t (.sl (people.map Wlk.e)),.t (tL tags),.ref 5 0 readers.length,.t (tL numbers),.t (tL looked),.ref 6 0 0],.arr 4 false 0 [],.arr 1 false 0 [],.arr 4 false 0 ((readers.map Rdr.e).map .t),.arr 1 false 0 []]⟩=
  some (.exit 2,⟨[.und,.und,.bp 1 0,.bp 2 0,.und,.und,.und,.und,.und,.t (tLL missed),I missed.length,I missed.length],[.box ((Tru.cs ⟨⟨places,roads⟩,time,people,tags,readers,numbers,looked,missed⟩).map .t),.box dA,.box [.t (.sl (places.map Place.e)),.t (.sl (roads.map Road.e)),I time,.t (.sl (people.map Wlk.e)),.t (tL tags),.ref 5 0 readers.length,.t (tL numbers),.t (tL looked),.ref 6 0 missed.length],.arr 4 false 0 [],.arr 1 false 0 [],.arr 4 false 0 ((readers.map Rdr.e).map .t),.arr 1 false 0 ((missed.map LLe).map .t)]⟩):=by
  intro z0 z1 z4 z5 z6 z7 z8 X
  refine cW (fun j=>⟨[.und,.und,.bp 1 0,.bp 2 0,.und,.und,.und,.und,.und,.t (tLL missed),I missed.length,I j],[.box ((Tru.cs ⟨⟨places,roads⟩,time,people,tags,readers,numbers,looked,missed⟩).map .t),.box dA,.box [.t (.sl (places.map Place.e)),.t (.sl (roads.map Road.e)),I time,.t (.sl (people.map Wlk.e)),.t (tL tags),.ref 5 0 readers.length,.t (tL numbers),.t (tL looked),.ref 6 0 (missed.take j).length],.arr 4 false 0 [],.arr 1 false 0 [],.arr 4 false 0 ((readers.map Rdr.e).map .t),.arr 1 false 0 (((missed.take j).map LLe).map .t)]⟩) missed.length rfl ?_ ?_ (by simp)
  · intro j hj
    have ex:(missed.map fun x=>T.sl (x.map (T.int .i64)))[j]?=some (LLe (nth missed j)):=cX _ hj
    have cl:=jn (nth missed j) (m2 _ (bG hj))
    have tk:=jL hj
    have tl:(missed.take j).length=j:=by rw[List.length_take];omega
    have tl2:(missed.take (j+1)).length=j+1:=by rw[List.length_take];omega
    rw[tl2,tk]
    generalize missed.take j=q at*
    generalize nth missed j=y at*
    simp only[Tru.cs,dA,List.map_cons,List.map_nil,tL,LLe]at*
    simp (disch:=omega) only[go_sem,K.fB,↓reduceIte,ex,cl,tl,List.map_append,List.map_cons,List.map_nil,Nat.reduceAdd,Nat.reduceSub]
  · rw[tk2]
    simp only[Tru.cs,dA,List.map_cons,List.map_nil]
    simp (disch:=omega) only[go_sem,K.fB,↓reduceIte,Nat.reduceAdd,Nat.reduceSub]
 have lp2:=fun z0 z1 z4 z5 z6 z7 z8=>lp2 z0 z1 z4 z5 z6 z7 z8 []
 simp only[Tru.e,Tru.cs,dA,List.map_cons,List.map_nil,LLe,tL]at*
 simp (disch:=omega) only[go_sem,K.cg,↓reduceIte,c1,c2,c3,c4,c5,c6,lp1,lp2,Nat.reduceAdd,Nat.reduceSub]
theorem r5(m:bP)(hp:m.places.length≤1000000)(hr:m.roads.length≤1000000):br 0 N.dq [.t m.e] []=some (.t m.e,[]):=by
 refine aO K.jk rfl ?_
 obtain⟨places,roads⟩:=m
 simp only at*
 simp (disch:=omega) only[go_sem,K.dq,↓reduceIte,Nat.reduceAdd,Nat.reduceSub]
abbrev tcH(x:Tru)(a b:Nat)(ra:List Rdr)(rb:List (List Int)):ab:=[.box (x.cs.map .t),.box dA,.box [.t (.sl (x.rP.places.map Place.e)),.t (.sl (x.rP.roads.map Road.e)),I x.time,.ref 5 0 x.people.length,.ref 6 0 x.tags.length,.ref 9 0 a,.ref 7 0 x.numbers.length,.ref 8 0 x.looked.length,.ref 10 0 b],.arr 4 false 0 [],.arr 1 false 0 [],.arr 3 false 0 ((x.people.map Wlk.e).map .t),.arr 1 false 0 ((x.tags.map (T.int .i64)).map .t),.arr 1 false 0 ((x.numbers.map (T.int .i64)).map .t),.arr 1 false 0 ((x.looked.map (T.int .i64)).map .t),.arr 4 false 0 ((ra.map Rdr.e).map .t),.arr 1 false 0 ((rb.map LLe).map .t)]
theorem tQ(x:Tru)(h:x.sz):br 0 N.du [.t x.e] []=some (.t x.e,[]):=by
 refine aO K.ju rfl ?_
 obtain⟨a,b,c,d,r,r2,n,l,m,m2⟩:=h
 have c1:=r5 x.rP a b
 have tk1:x.readers.take x.readers.length=x.readers:=List.take_length
 have tk2:x.missed.take x.missed.length=x.missed:=List.take_length
 have lp1:∀z0 z5 z6:D,exS br K.lJ ⟨[z0,.bp 0 0,.bp 1 0,.bp 2 0,I 0,z5,z6],tcH x 0 0 [] []⟩=
  some (.exit 0,⟨[.und,.bp 0 0,.bp 1 0,.bp 2 0,I x.readers.length,.und,.und],tcH x x.readers.length 0 x.readers []⟩):=by
  intro z0 z5 z6
  refine cW (fun j=>⟨[.und,.bp 0 0,.bp 1 0,.bp 2 0,I j,.und,.und],tcH x (x.readers.take j).length 0 (x.readers.take j) []⟩) x.readers.length rfl ?_ ?_ (by simp)
  · intro j hj
    have ex:(x.readers.map Rdr.e)[j]?=some (nth x.readers j).e:=cX _ hj
    have tk:=jL hj
    have tl:(x.readers.take j).length=j:=by rw[List.length_take];omega
    have tl2:(x.readers.take (j+1)).length=j+1:=by rw[List.length_take];omega
    have yl:=r2 _ (bG hj)
    rw[tl2,tk]
    generalize x.readers.take j=q at*
    generalize nth x.readers j=y at*
    obtain⟨⟨places,roads⟩,time,people,tags,readers,numbers,looked,missed⟩:=x
    obtain⟨pl,per,miss,skew⟩:=y
    simp only[tcH,Tru.cs,dA,List.map_cons,List.map_nil,tL]at*
    simp (disch:=omega) only[go_sem,K.gH,↓reduceIte,ex,tl,List.map_append,List.map_cons,List.map_nil,Nat.reduceAdd,Nat.reduceSub]
  · rw[tk1]
    obtain⟨⟨places,roads⟩,time,people,tags,readers,numbers,looked,missed⟩:=x
    simp only[tcH,Tru.cs,dA,List.map_cons,List.map_nil]at*
    simp (disch:=omega) only[go_sem,K.gH,↓reduceIte,Nat.reduceAdd,Nat.reduceSub]
 have lp2:∀z0 z4 z5:D,exS br K.lK ⟨[z0,.bp 0 0,.bp 1 0,.bp 2 0,z4,z5,I 0],tcH x x.readers.length 0 x.readers []⟩=
  some (.exit 2,⟨[.und,.bp 0 0,.bp 1 0,.bp 2 0,.und,.und,I x.missed.length],tcH x x.readers.length x.missed.length x.readers x.missed⟩):=by
  intro z0 z4 z5
  refine cW (fun j=>⟨[.und,.bp 0 0,.bp 1 0,.bp 2 0,.und,.und,I j],tcH x x.readers.length (x.missed.take j).length x.readers (x.missed.take j)⟩) x.missed.length rfl ?_ ?_ (by simp)
  · intro j hj
    have ex:(x.missed.map fun x=>T.sl (x.map (T.int .i64)))[j]?=some (LLe (nth x.missed j)):=cX _ hj
    have tk:=jL hj
    have tl:(x.missed.take j).length=j:=by rw[List.length_take];omega
    have tl2:(x.missed.take (j+1)).length=j+1:=by rw[List.length_take];omega
    have yl:=m2 _ (bG hj)
    rw[tl2,tk]
    generalize x.missed.take j=q at*
    generalize nth x.missed j=y at*
    obtain⟨⟨places,roads⟩,time,people,tags,readers,numbers,looked,missed⟩:=x
    simp only[tcH,Tru.cs,dA,List.map_cons,List.map_nil,tL,LLe]at*
    simp (disch:=omega) only[go_sem,K.gI,↓reduceIte,ex,tl,List.map_append,List.map_cons,List.map_nil,Nat.reduceAdd,Nat.reduceSub]
  · rw[tk2]
    obtain⟨⟨places,roads⟩,time,people,tags,readers,numbers,looked,missed⟩:=x
    simp only[tcH,Tru.cs,dA,List.map_cons,List.map_nil]at*
    simp (disch:=omega) only[go_sem,K.gI,↓reduceIte,Nat.reduceAdd,Nat.reduceSub]
 obtain⟨⟨places,roads⟩,time,people,tags,readers,numbers,looked,missed⟩:=x
 simp only[tcH,Tru.e,Tru.cs,dA,List.map_cons,List.map_nil,LLe,tL]at*
 simp (disch:=omega) only[go_sem,K.du,↓reduceIte,c1,lp1,lp2,Nat.reduceAdd,Nat.reduceSub]
theorem Bf(x:Tru)(h:x.sz):br 0 N.dv [.t x.e,.t x.e] []=some (B true,[]):=by
 refine aO K.jv rfl ?_
 obtain⟨a,b,c,d,r,r2,n,l,m,m2⟩:=h
 have c1:=tM x.rP a b
 have s1:=oK x.tags x.tags (by omega)
 have s2:=oK x.numbers x.numbers (by omega)
 have s3:=oK x.looked x.looked (by omega)
 simp only[decide_true]at s1 s2 s3
 have lp1:∀z0 z1 z4 z6 z7 z8 z9:D,exS br K.lL ⟨[z0,z1,.bp 0 0,.bp 1 0,z4,I 0,z6,z7,z8,z9],[.box (x.cs.map .t),.box (x.cs.map .t)]⟩=
  some (.exit 0,⟨[.und,.und,.bp 0 0,.bp 1 0,.und,I x.people.length,.und,.und,.und,.und],[.box (x.cs.map .t),.box (x.cs.map .t)]⟩):=by
  intro z0 z1 z4 z6 z7 z8 z9
  refine cW (fun j=>⟨[.und,.und,.bp 0 0,.bp 1 0,.und,I j,.und,.und,.und,.und],[.box (x.cs.map .t),.box (x.cs.map .t)]⟩) x.people.length rfl ?_ ?_ (by simp)
  · intro j hj
    have ex:(x.people.map Wlk.e)[j]?=some (nth x.people j).e:=cX _ hj
    generalize nth x.people j=y at*
    obtain⟨⟨places,roads⟩,time,people,tags,readers,numbers,looked,missed⟩:=x
    obtain⟨p1,p2,p3⟩:=y
    simp only[Tru.cs,List.map_cons,List.map_nil]at*
    simp (disch:=omega) only[go_sem,K.gJ,↓reduceIte,ex,decide_true,Bool.and_self,Bool.not_true,Nat.reduceAdd,Nat.reduceSub]
  · obtain⟨⟨places,roads⟩,time,people,tags,readers,numbers,looked,missed⟩:=x
    simp only[Tru.cs,List.map_cons,List.map_nil]at*
    simp (disch:=omega) only[go_sem,K.gJ,↓reduceIte,Nat.reduceAdd,Nat.reduceSub]
 have lp2:∀z0 z1 z4 z5 z7 z8 z9:D,exS br K.lM ⟨[z0,z1,.bp 0 0,.bp 1 0,z4,z5,I 0,z7,z8,z9],[.box (x.cs.map .t),.box (x.cs.map .t)]⟩=
  some (.exit 2,⟨[.und,.und,.bp 0 0,.bp 1 0,.und,.und,I x.readers.length,.und,.und,.und],[.box (x.cs.map .t),.box (x.cs.map .t)]⟩):=by
  intro z0 z1 z4 z5 z7 z8 z9
  refine cW (fun j=>⟨[.und,.und,.bp 0 0,.bp 1 0,.und,.und,I j,.und,.und,.und],[.box (x.cs.map .t),.box (x.cs.map .t)]⟩) x.readers.length rfl ?_ ?_ (by simp)
  · intro j hj
    have ex:(x.readers.map Rdr.e)[j]?=some (nth x.readers j).e:=cX _ hj
    have yl:=r2 _ (bG hj)
    have s4:=oK (nth x.readers j).pl (nth x.readers j).pl (by omega)
    simp only[decide_true]at s4
    generalize nth x.readers j=y at*
    obtain⟨⟨places,roads⟩,time,people,tags,readers,numbers,looked,missed⟩:=x
    obtain⟨pl,per,miss,skew⟩:=y
    simp only[Tru.cs,List.map_cons,List.map_nil,tL]at*
    simp (disch:=omega) only[go_sem,K.gK,↓reduceIte,ex,s4,Nat.reduceAdd,Nat.reduceSub]
  · obtain⟨⟨places,roads⟩,time,people,tags,readers,numbers,looked,missed⟩:=x
    simp only[Tru.cs,List.map_cons,List.map_nil]at*
    simp (disch:=omega) only[go_sem,K.gK,↓reduceIte,Nat.reduceAdd,Nat.reduceSub]
 have lp3:∀z0 z1 z4 z5 z6 z7 z8:D,exS br K.lN ⟨[z0,z1,.bp 0 0,.bp 1 0,z4,z5,z6,z7,z8,I 0],[.box (x.cs.map .t),.box (x.cs.map .t)]⟩=
  some (.exit 4,⟨[.und,.und,.bp 0 0,.bp 1 0,.und,.und,.und,.und,.und,I x.missed.length],[.box (x.cs.map .t),.box (x.cs.map .t)]⟩):=by
  intro z0 z1 z4 z5 z6 z7 z8
  refine cW (fun j=>⟨[.und,.und,.bp 0 0,.bp 1 0,.und,.und,.und,.und,.und,I j],[.box (x.cs.map .t),.box (x.cs.map .t)]⟩) x.missed.length rfl ?_ ?_ (by simp)
  · intro j hj
    have ex:(x.missed.map fun x=>T.sl (x.map (T.int .i64)))[j]?=some (LLe (nth x.missed j)):=cX _ hj
    have yl:=m2 _ (bG hj)
    have s4:=oK (nth x.missed j) (nth x.missed j) (by omega)
    simp only[decide_true]at s4
    generalize nth x.missed j=y at*
    obtain⟨⟨places,roads⟩,time,people,tags,readers,numbers,looked,missed⟩:=x
    simp only[Tru.cs,List.map_cons,List.map_nil,tL,LLe]at*
    simp (disch:=omega) only[go_sem,K.gL,↓reduceIte,ex,s4,Nat.reduceAdd,Nat.reduceSub]
  · obtain⟨⟨places,roads⟩,time,people,tags,readers,numbers,looked,missed⟩:=x
    simp only[Tru.cs,List.map_cons,List.map_nil]at*
    simp (disch:=omega) only[go_sem,K.gL,↓reduceIte,Nat.reduceAdd,Nat.reduceSub]
 obtain⟨⟨places,roads⟩,time,people,tags,readers,numbers,looked,missed⟩:=x
 simp only[Tru.e,Tru.cs,List.map_cons,List.map_nil,LLe,tL]at*
 simp (disch:=omega) only[go_sem,K.dv,↓reduceIte,c1,s1,s2,s3,lp1,lp2,lp3,Nat.reduceAdd,Nat.reduceSub]
theorem r6(x:Tru)(h:x.sz)(e:Int):br 0 N.cj [.t x.e,.t x.e,I e,I e] []=some (B true,[]):=by
 refine aO K.jq rfl ?_
 have c:=Bf x h
 obtain⟨⟨places,roads⟩,time,people,tags,readers,numbers,looked,missed⟩:=x
 simp only[Tru.e,Tru.cs,List.map_cons,List.map_nil,LLe,tL]at*
 simp (disch:=omega) only[go_sem,K.cj,↓reduceIte,c,decide_true,Nat.reduceAdd,Nat.reduceSub]
abbrev yX:Tru:=⟨⟨[],[]⟩,0,[],[],[],[],[],[]⟩
abbrev stW(p:Int):Wlk:=⟨p, -1,0⟩
def r7(m:bP)(l:List Rdr)(at' tags:List Int)(t:Int):Tru:=
 ⟨m,t,at'.map stW,tags,l,List.replicate l.length (-1),List.replicate l.length (-1),List.replicate l.length (List.replicate at'.length 0)⟩
def jA(m:bP)(l:List Rdr)(at' tags:List Int)(t:Int):Tru×Int:=
 if qy m l=false∨¬(1≤(at'.length:Int)∧(at'.length:Int)≤12)∨tags.length≠at'.length then(yX,6)
 else if(at'.any fun p=> !decide (0≤p∧p≤(m.places.length:Int)-1))=true then(yX,3)
 else if ei tags=false then(yX,41)
 else if ¬(0≤t∧t≤2147483648)then(yX,8)
 else(r7 m l at' tags t,0)
abbrev nsH(m:bP)(l:List Rdr)(at' tags:List Int)(t:Int)(ps:List Wlk)(a b:List Int)(c:List (List Int)):ab:=[.box (af m),.box dA,.box [.t (.sl (m.places.map Place.e)),.t (.sl (m.roads.map Road.e)),I t,.ref 7 0 ps.length,.t (tL tags),.t (.sl (l.map Rdr.e)),.ref 8 0 a.length,.ref 9 0 b.length,.ref 10 0 c.length],.arr 3 false 0 [],.arr 1 false 0 [],.arr 1 false 0 [],.arr 1 false 0 [],.arr 3 false 0 ((ps.map Wlk.e).map .t),.arr 1 false 0 ((a.map (T.int .i64)).map .t),.arr 1 false 0 ((b.map (T.int .i64)).map .t),.arr 1 false 0 ((c.map LLe).map .t)]
theorem lV{α:Type}(n:Nat)(a:α):List.replicate (n+1) a=List.replicate n a++[a]:=List.replicate_succ'
theorem r8(n:Nat):(List.replicate n (0:Int)).map (T.int .i64)=List.replicate n (T.int .i64 0):=List.map_replicate
theorem oX{m:bP}(hm:m.ok)(l:List Rdr)(at' tags:List Int)(t:Int)(hl:l.length≤1000000)(h2:∀y∈l,y.pl.length≤1000000)(ha:at'.length≤1000000)(ht:tags.length≤1000000):(r7 m l at' tags t).sz:=by
 have np:=hm.np
 have nr:=hm.nr
 unfold r7
 refine⟨by simp only;omega,by simp only;omega,by simp only[List.length_map];omega,ht,hl,h2,by simp only[List.length_replicate];omega,by simp only[List.length_replicate];omega,by simp only[List.length_replicate];omega,fun y hy=>?_⟩
 simp only[List.mem_replicate]at hy
 rw[hy.2,List.length_replicate]
 omega
theorem Mu(m:bP)(hp:m.places.length≤1000000)(p:Int):br 0 N.bD [I p,.bp 0 0] [.box (af m)]=some (B (!decide (0≤p∧p≤(m.places.length:Int)-1)),[.box (af m)]):=by
 have i:=vK p 0 ((m.places.length:Int)-1)
 refine aO K.gl rfl ?_
 obtain⟨places,roads⟩:=m
 simp only[af]at*
 generalize decide (0≤p∧p≤(places.length:Int)-1)=b at*
 simp (disch:=omega) only[go_sem,K.bD,↓reduceIte,i,Nat.reduceAdd,Nat.reduceSub]
theorem RR(m:bP)(at':List Int)(ha:at'.length≤1000000)(hp:m.places.length≤1000000):br 0 N.av [.t (tL at'),.fn N.bD [.bp 0 0]] [.box (af m)]=some (B (at'.any fun p=> !decide (0≤p∧p≤(m.places.length:Int)-1)),[.box (af m)]):=
 oL at' (by omega) N.bD [[.sl (m.places.map Place.e),.sl (m.roads.map Road.e)]] (fun p=> !decide (0≤p∧p≤(m.places.length:Int)-1)) (fun p _=>Mu m hp p)
theorem r9{m:bP}(hm:m.ok)(l:List Rdr)(at' tags:List Int)(t:Int)(hl:l.length≤1000000)(h2:∀y∈l,y.pl.length≤1000000)(ha:at'.length≤1000000)(ht:tags.length≤1000000):
 br 0 N.aU [.t m.e,.t (.sl (l.map Rdr.e)),.t (tL at'),.t (tL tags),I t] []=some (.tup [.t (jA m l at' tags t).1.e,I (jA m l at' tags t).2],[]):=by
 refine aO K.iP rfl ?_
 have va:=wg hm l hl h2
 have i1:=vK (at'.length:Int) 1 12
 have i2:=vK t 0 2147483648
 have tg:=wj tags ht
 have np:=hm.np
 have cf:=RR m at' ha (by omega)
 have cp:=tP _ (oX hm l at' tags t hl h2 ha ht)
 have tk:at'.take at'.length=at':=List.take_length
 have lp1:∀z0 z2 z3 z4 z5 z7 z10 z14 z15:D,exS br K.j6 ⟨[z0,.t (.sl (l.map Rdr.e)),z2,z3,z4,z5,.bp 1 0,z7,I at'.length,.bp 2 0,z10,.t (tL at'),I at'.length,I 0,z14,z15],nsH m l at' tags t [] [] [] []⟩=
  some (.exit 1,⟨[.und,.t (.sl (l.map Rdr.e)),.und,.und,.und,.und,.bp 1 0,.und,I at'.length,.bp 2 0,.und,.t (tL at'),I at'.length,I at'.length,.und,.und],nsH m l at' tags t (at'.map stW) [] [] []⟩):=by
  intro z0 z2 z3 z4 z5 z7 z10 z14 z15
  refine cW (fun j=>⟨[.und,.t (.sl (l.map Rdr.e)),.und,.und,.und,.und,.bp 1 0,.und,I at'.length,.bp 2 0,.und,.t (tL at'),I at'.length,I j,.und,.und],nsH m l at' tags t ((at'.take j).map stW) [] [] []⟩) at'.length rfl ?_ ?_ (by simp)
  · intro j hj
    have ex:(at'.map (T.int .i64))[j]?=some (.int .i64 (nth at' j)):=cX _ hj
    have tk:=jL hj
    have tl:(at'.take j).length=j:=by rw[List.length_take];omega
    rw[tk]
    generalize at'.take j=q at*
    generalize nth at' j=y at*
    obtain⟨places,roads⟩:=m
    simp only[nsH,dA,af,List.map_append,List.map_cons,List.map_nil,List.length_append,List.length_map,List.length_cons,List.length_nil]at*
    simp only[tl]
    simp (disch:=omega) only[go_sem,K.gg,↓reduceIte,ex,tl,List.map_append,List.map_cons,List.map_nil,Nat.reduceAdd,Nat.reduceSub]
  · rw[tk]
    obtain⟨places,roads⟩:=m
    simp only[nsH,dA,af,List.map_append,List.map_cons,List.map_nil]at*
    simp (disch:=omega) only[go_sem,K.gg,↓reduceIte,Nat.reduceAdd,Nat.reduceSub]
 have lp2:∀z0 z1 z2 z3 z4 z5 z7 z10 z11 z12 z13:D,exS br K.j7 ⟨[z0,z1,z2,z3,z4,z5,.bp 1 0,z7,I at'.length,.bp 2 0,z10,z11,z12,z13,I l.length,I 0],nsH m l at' tags t (at'.map stW) [] [] []⟩=
  some (.exit 3,⟨[.und,.und,.und,.und,.und,.und,.bp 1 0,.und,I at'.length,.bp 2 0,.und,.und,.und,.und,I l.length,I l.length],nsH m l at' tags t (at'.map stW) (List.replicate l.length (-1)) (List.replicate l.length (-1)) (List.replicate l.length (List.replicate at'.length 0))⟩):=by
  intro z0 z1 z2 z3 z4 z5 z7 z10 z11 z12 z13
  refine cW (fun j=>⟨[.und,.und,.und,.und,.und,.und,.bp 1 0,.und,I at'.length,.bp 2 0,.und,.und,.und,.und,I l.length,I j],nsH m l at' tags t (at'.map stW) (List.replicate j (-1)) (List.replicate j (-1)) (List.replicate j (List.replicate at'.length 0))⟩) l.length rfl ?_ ?_ (by simp)
  · intro j hj
    rw[lV,lV]
    have r1:(List.replicate j (-1:Int)).length=j:=List.length_replicate
    have r2:(List.replicate j (List.replicate at'.length (0:Int))).length=j:=List.length_replicate
    have r3:=r8 at'.length
    generalize List.replicate j (-1:Int)=q1 at*
    generalize List.replicate j (List.replicate at'.length (0:Int))=q2 at*
    obtain⟨places,roads⟩:=m
    simp only[nsH,dA,af,List.map_append,List.map_cons,List.map_nil,List.length_append,List.length_map,List.length_cons,List.length_nil,LLe]at*
    simp only[r1,r2,r3]
    simp (disch:=omega) only[go_sem,K.gh,↓reduceIte,r1,r2,List.map_append,List.map_cons,List.map_nil,Nat.reduceAdd,Nat.reduceSub]
  · obtain⟨places,roads⟩:=m
    simp only[nsH,dA,af,List.map_append,List.map_cons,List.map_nil]at*
    simp (disch:=omega) only[go_sem,K.gh,↓reduceIte,Nat.reduceAdd,Nat.reduceSub]
 unfold jA
 by_cases c1:qy m l=false∨¬(1≤(at'.length:Int)∧(at'.length:Int)≤12)∨tags.length≠at'.length
 · rw[if_pos c1]
   cases hb:qy m l with
   | false=>
     rw[hb]at va
     obtain⟨places,roads⟩:=m
     simp only[af]at*
     simp (disch:=omega) only[go_sem,K.aU,↓reduceIte,va,Nat.reduceAdd,Nat.reduceSub]
     rfl
   | true=>
     rw[hb]at va
     by_cases c2:tags.length=at'.length
     · have c3:¬(1≤(at'.length:Int)∧(at'.length:Int)≤12):=by
        rcases c1 with c | c | c
        · rw[hb]at c;cases c
        · exact c
        · exact absurd c2 c
       rw[decide_eq_false c3]at i1
       obtain⟨places,roads⟩:=m
       simp only[af]at*
       simp (disch:=omega) only[go_sem,K.aU,↓reduceIte,va,c2,i1,Nat.reduceAdd,Nat.reduceSub]
       rfl
     · obtain⟨places,roads⟩:=m
       simp only[af]at*
       simp (disch:=omega) only[go_sem,K.aU,↓reduceIte,va,c2,Nat.reduceAdd,Nat.reduceSub]
       rfl
 · rw[if_neg c1]
   simp only[not_or,Bool.not_eq_false,Decidable.not_not,ne_eq]at c1
   obtain⟨c0,c2,c3⟩:=c1
   rw[c0]at va
   rw[decide_eq_true c2]at i1
   cases hc:at'.any fun p=> !decide (0≤p∧p≤(m.places.length:Int)-1)with
   | true=>
     rw[hc]at cf
     rw[if_pos rfl]
     obtain⟨places,roads⟩:=m
     simp only[af]at*
     simp (disch:=omega) only[go_sem,K.aU,↓reduceIte,va,c3,i1,cf,Nat.reduceAdd,Nat.reduceSub]
     rfl
   | false=>
     rw[hc]at cf
     rw[if_neg (by simp)]
     cases ht:ei tags with
     | false=>
       rw[ht]at tg
       rw[if_pos rfl]
       obtain⟨places,roads⟩:=m
       simp only[af]at*
       simp (disch:=omega) only[go_sem,K.aU,↓reduceIte,va,c3,i1,cf,tg,Nat.reduceAdd,Nat.reduceSub]
       rfl
     | true=>
       rw[ht]at tg
       rw[if_neg (by simp)]
       by_cases c4:0≤t∧t≤2147483648
       · rw[decide_eq_true c4]at i2
         rw[if_neg (by simpa using c4)]
         obtain⟨places,roads⟩:=m
         simp only[af,r7,nsH,dA,Tru.e,Tru.cs,List.map_nil,List.length_nil,List.length_map]at*
         simp (disch:=omega) only[go_sem,K.aU,↓reduceIte,va,c3,i1,cf,tg,i2,lp1,lp2,cp,List.length_map,Nat.reduceAdd,Nat.reduceSub]
       · rw[decide_eq_false c4]at i2
         rw[if_pos c4]
         obtain⟨places,roads⟩:=m
         simp only[af]at*
         simp (disch:=omega) only[go_sem,K.aU,↓reduceIte,va,c3,i1,cf,tg,i2,Nat.reduceAdd,Nat.reduceSub]
         rfl
theorem oY{m:bP}(hm:m.ok)(l:List Rdr)(at' tags:List Int)(t:Int)(hl:l.length≤1000000)(h2:∀y∈l,y.pl.length≤1000000)(ha:at'.length≤1000000)(ht:tags.length≤1000000):
 br 0 N.aR [.t m.e,.t (.sl (l.map Rdr.e)),.t (tL at'),.t (tL tags),I t] []=some (.tup [.t (jA m l at' tags t).1.e,I (jA m l at' tags t).2],[]):=by
 refine aO K.iQ rfl ?_
 have va:=tJ hm l hl h2
 have tg:=tK tags ht
 have np:=hm.np
 have cp:=tQ _ (oX hm l at' tags t hl h2 ha ht)
 have tk:at'.take at'.length=at':=List.take_length
 have lp:=fun z0 z7 z10 z11 z12:D=>lA (gc:=true) (dead:=[0,7,10,11,12]) (c:=K.c7) (vs:=[z0,.t (.sl (l.map Rdr.e)),.t (tL at'),.t (tL tags),I t,.bp 0 0,.bp 1 0,z7,I at'.length,I 0,z10,z11,z12]) (H:=[.box (af m),.box dA])
  (fun j=>⟨[.und,.t (.sl (l.map Rdr.e)),.t (tL at'),.t (tL tags),I t,.bp 0 0,.bp 1 0,.und,I at'.length,I j,.und,.und,.und],[.box (af m),.box dA]⟩) at'.length (fun j=> !decide (0≤nth at' j∧nth at' j≤(m.places.length:Int)-1))
  (fun j=>(.ret,⟨[.und,.t (.sl (l.map Rdr.e)),.t (tL at'),.t (tL tags),I t,.bp 0 0,.bp 1 0,I 3,I at'.length,I j,.und,.und,.und],[.box (af m),.box dA]⟩))
  (.exit 0,⟨[.und,.t (.sl (l.map Rdr.e)),.t (tL at'),.t (tL tags),I t,.bp 0 0,.bp 1 0,.und,I at'.length,I at'.length,.und,.und,.und],[.box (af m),.box dA]⟩) rfl
  (fun j hj hq=>by
   have ex:(at'.map (T.int .i64))[j]?=some (.int .i64 (nth at' j)):=cX _ hj
   have hq:0≤nth at' j∧nth at' j≤(m.places.length:Int)-1:=by simpa using hq
   generalize nth at' j=y at*
   obtain⟨places,roads⟩:=m
   simp only[af]at*
   simp (disch:=omega) only[go_sem,K.c7,↓reduceIte,ex,Nat.reduceAdd,Nat.reduceSub]
   )
  (fun j hj hq=>by
   have ex:(at'.map (T.int .i64))[j]?=some (.int .i64 (nth at' j)):=cX _ hj
   have hq:¬(0≤nth at' j∧nth at' j≤(m.places.length:Int)-1):=by
    intro c
    rw[decide_eq_true c]at hq
    cases hq
   refine⟨?_,by simp⟩
   generalize nth at' j=y at*
   obtain⟨places,roads⟩:=m
   simp only[af,dA]at*
   by_cases c:y<0
   · simp (disch:=omega) only[go_sem,K.c7,↓reduceIte,ex,c,Nat.reduceAdd,Nat.reduceSub]
   · simp (disch:=omega) only[go_sem,K.c7,↓reduceIte,ex,c,Nat.reduceAdd,Nat.reduceSub]
   )
  (by
   obtain⟨places,roads⟩:=m
   simp only[af]
   simp (disch:=omega) only[go_sem,K.c7,↓reduceIte,Nat.reduceAdd,Nat.reduceSub]
   ) (by simp)
 have lp0:∀z0 z7 z10 z11 z12:D,exS br K.j8 _=_:=lp
 clear lp
 rw[xY at' (fun p=> !decide (0≤p∧p≤(m.places.length:Int)-1))]at lp0
 have lp1:∀z0 z3 z4 z5 z7 z9 z12:D,exS br K.j9 ⟨[z0,.t (.sl (l.map Rdr.e)),.t (tL at'),z3,z4,z5,.bp 1 0,z7,I at'.length,z9,.bp 2 0,I 0,z12],nsH m l at' tags t [] [] [] []⟩=
  some (.exit 2,⟨[.und,.t (.sl (l.map Rdr.e)),.t (tL at'),.und,.und,.und,.bp 1 0,.und,I at'.length,.und,.bp 2 0,I at'.length,.und],nsH m l at' tags t (at'.map stW) [] [] []⟩):=by
  intro z0 z3 z4 z5 z7 z9 z12
  refine cW (fun j=>⟨[.und,.t (.sl (l.map Rdr.e)),.t (tL at'),.und,.und,.und,.bp 1 0,.und,I at'.length,.und,.bp 2 0,I j,.und],nsH m l at' tags t ((at'.take j).map stW) [] [] []⟩) at'.length rfl ?_ ?_ (by simp)
  · intro j hj
    have ex:(at'.map (T.int .i64))[j]?=some (.int .i64 (nth at' j)):=cX _ hj
    have tk:=jL hj
    have tl:(at'.take j).length=j:=by rw[List.length_take];omega
    rw[tk]
    generalize at'.take j=q at*
    generalize nth at' j=y at*
    obtain⟨places,roads⟩:=m
    simp only[nsH,dA,af,List.map_append,List.map_cons,List.map_nil,List.length_append,List.length_map,List.length_cons,List.length_nil]at*
    simp only[tl]
    simp (disch:=omega) only[go_sem,K.gj,↓reduceIte,ex,tl,List.map_append,List.map_cons,List.map_nil,Nat.reduceAdd,Nat.reduceSub]
  · rw[tk]
    obtain⟨places,roads⟩:=m
    simp only[nsH,dA,af,List.map_append,List.map_cons,List.map_nil]at*
    simp (disch:=omega) only[go_sem,K.gj,↓reduceIte,Nat.reduceAdd,Nat.reduceSub]
 have lp2:∀z0 z2 z3 z4 z5 z7 z9 z11:D,exS br K.ka ⟨[z0,.t (.sl (l.map Rdr.e)),z2,z3,z4,z5,.bp 1 0,z7,I at'.length,z9,.bp 2 0,z11,I 0],nsH m l at' tags t (at'.map stW) [] [] []⟩=
  some (.exit 4,⟨[.und,.t (.sl (l.map Rdr.e)),.und,.und,.und,.und,.bp 1 0,.und,I at'.length,.und,.bp 2 0,.und,I l.length],nsH m l at' tags t (at'.map stW) (List.replicate l.length (-1)) (List.replicate l.length (-1)) (List.replicate l.length (List.replicate at'.length 0))⟩):=by
  intro z0 z2 z3 z4 z5 z7 z9 z11
  refine cW (fun j=>⟨[.und,.t (.sl (l.map Rdr.e)),.und,.und,.und,.und,.bp 1 0,.und,I at'.length,.und,.bp 2 0,.und,I j],nsH m l at' tags t (at'.map stW) (List.replicate j (-1)) (List.replicate j (-1)) (List.replicate j (List.replicate at'.length 0))⟩) l.length rfl ?_ ?_ (by simp)
  · intro j hj
    rw[lV,lV]
    have r1:(List.replicate j (-1:Int)).length=j:=List.length_replicate
    have r2:(List.replicate j (List.replicate at'.length (0:Int))).length=j:=List.length_replicate
    have r3:=r8 at'.length
    generalize List.replicate j (-1:Int)=q1 at*
    generalize List.replicate j (List.replicate at'.length (0:Int))=q2 at*
    obtain⟨places,roads⟩:=m
    simp only[nsH,dA,af,List.map_append,List.map_cons,List.map_nil,List.length_append,List.length_map,List.length_cons,List.length_nil,LLe]at*
    simp only[r1,r2,r3]
    simp (disch:=omega) only[go_sem,K.gk,↓reduceIte,r1,r2,List.map_append,List.map_cons,List.map_nil,Nat.reduceAdd,Nat.reduceSub]
  · obtain⟨places,roads⟩:=m
    simp only[nsH,dA,af,List.map_append,List.map_cons,List.map_nil]at*
    simp (disch:=omega) only[go_sem,K.gk,↓reduceIte,Nat.reduceAdd,Nat.reduceSub]
 unfold jA
 by_cases c1:qy m l=false∨¬(1≤(at'.length:Int)∧(at'.length:Int)≤12)∨tags.length≠at'.length
 · rw[if_pos c1]
   cases hb:qy m l with
   | false=>
     rw[hb]at va
     obtain⟨places,roads⟩:=m
     simp only[af]at*
     simp (disch:=omega) only[go_sem,K.aR,↓reduceIte,va,Nat.reduceAdd,Nat.reduceSub]
     rfl
   | true=>
     rw[hb]at va
     by_cases c2:(at'.length:Int)<1
     · obtain⟨places,roads⟩:=m
       simp only[af]at*
       simp (disch:=omega) only[go_sem,K.aR,↓reduceIte,va,c2,Nat.reduceAdd,Nat.reduceSub]
       rfl
     · by_cases c3:(at'.length:Int)>12
       · obtain⟨places,roads⟩:=m
         simp only[af]at*
         simp (disch:=omega) only[go_sem,K.aR,↓reduceIte,va,c2,c3,Nat.reduceAdd,Nat.reduceSub]
         rfl
       · have c4:¬tags.length=at'.length:=by
          rcases c1 with c | c | c
          · rw[hb]at c;cases c
          · exact absurd ⟨by omega,by omega⟩ c
          · exact c
         obtain⟨places,roads⟩:=m
         simp only[af]at*
         simp (disch:=omega) only[go_sem,K.aR,↓reduceIte,va,c2,c3,c4,Nat.reduceAdd,Nat.reduceSub]
         rfl
 · rw[if_neg c1]
   simp only[not_or,Bool.not_eq_false,Decidable.not_not,ne_eq]at c1
   obtain⟨c0,c2,c3⟩:=c1
   rw[c0]at va
   cases hc:at'.any fun p=> !decide (0≤p∧p≤(m.places.length:Int)-1)with
   | true=>
     rw[hc]at lp0
     simp only[if_true]at lp0
     rw[if_pos rfl]
     generalize oH at'.length _=j at*
     obtain⟨places,roads⟩:=m
     simp only[af,dA]at*
     simp (disch:=omega) only[go_sem,K.aR,↓reduceIte,va,c3,lp0,Nat.reduceAdd,Nat.reduceSub]
     rfl
   | false=>
     rw[hc]at lp0
     simp only[Bool.false_eq_true,if_false]at lp0
     rw[if_neg (by simp)]
     cases ht:ei tags with
     | false=>
       rw[ht]at tg
       rw[if_pos rfl]
       obtain⟨places,roads⟩:=m
       simp only[af,dA]at*
       simp (disch:=omega) only[go_sem,K.aR,↓reduceIte,va,c3,lp0,tg,Nat.reduceAdd,Nat.reduceSub]
       rfl
     | true=>
       rw[ht]at tg
       rw[if_neg (by simp)]
       by_cases c4:0≤t∧t≤2147483648
       · rw[if_neg (by simpa using c4)]
         obtain⟨places,roads⟩:=m
         simp only[af,r7,nsH,dA,Tru.e,Tru.cs,List.map_nil,List.length_nil,List.length_map]at*
         simp (disch:=omega) only[go_sem,K.aR,↓reduceIte,va,c3,lp0,tg,lp1,lp2,cp,List.length_map,Nat.reduceAdd,Nat.reduceSub]
       · rw[if_pos c4]
         by_cases c5:t<0
         · obtain⟨places,roads⟩:=m
           simp only[af,dA]at*
           simp (disch:=omega) only[go_sem,K.aR,↓reduceIte,va,c3,lp0,tg,c5,Nat.reduceAdd,Nat.reduceSub]
           rfl
         · obtain⟨places,roads⟩:=m
           simp only[af,dA]at*
           simp (disch:=omega) only[go_sem,K.aR,↓reduceIte,va,c3,lp0,tg,c5,Nat.reduceAdd,Nat.reduceSub]
           rfl
abbrev tsV(t ea:Int)(l:List Rdr)(p q:List Int)(v:Int):List D:=[.und,.und,I t,.und,.bp 0 0,.und,.und,.bp 1 0,.ref 2 0 l.length,.bp 3 0,I ea,.bp 4 0,I ea,.ref 5 0 p.length,.ref 6 0 q.length,I v,.und,.und,.und,.und]
abbrev tsG(e:aB)(m:bP)(l:List Rdr)(x:Tru)(p q:List Int):ab:=[e.obj,.box (af m),.arr 4 true 0 ((l.map Rdr.e).map .t),.box (x.cs.map .t),.box (x.cs.map .t),.arr 1 false 0 ((p.map (T.int .i64)).map .t),.arr 1 false 0 ((q.map (T.int .i64)).map .t)]
def tsP(m:bP)(l:List Rdr)(x:Tru)(t ea:Int)(n:Nat)(j:Nat)(s:St):Prop:=
 ∃(e:aB) (p q:List Int),s=⟨tsV t ea l p q ((n:Int)-j),tsG e m l x p q⟩∧e.bT∧p.length=j∧q.length=j
theorem GH{e0:aB}(l0:e0.bT)(m:bP)(np:m.places.length≤64)(l:List Rdr)(hl:l.length≤3)(x:Tru)(t ea:Int)(n:Nat)(hn:n≤100):
 ∃(e:aB) (p q:List Int),e.bT∧p.length=n∧q.length=n∧∀z0 z1 z3 z5 z6 z16 z17 z18 z19:D,
 exS br K.cP ⟨[z0,z1,I t,z3,.bp 0 0,z5,z6,.bp 1 0,.ref 2 0 l.length,.bp 3 0,I ea,.bp 4 0,I ea,.ref 5 0 0,.ref 6 0 0,I n,z16,z17,z18,z19],tsG e0 m l x [] []⟩=some (.exit 0,⟨tsV t ea l p q 0,tsG e m l x p q⟩):=by
 have key:∀z0 z1 z3 z5 z6 z16 z17 z18 z19:D,∃r,exS br K.cP ⟨[z0,z1,I t,z3,.bp 0 0,z5,z6,.bp 1 0,.ref 2 0 l.length,.bp 3 0,I ea,.bp 4 0,I ea,.ref 5 0 0,.ref 6 0 0,I n,z16,z17,z18,z19],tsG e0 m l x [] []⟩=some r∧
  ∃(e:aB) (p q:List Int),r=(.exit 0,⟨tsV t ea l p q 0,tsG e m l x p q⟩)∧e.bT∧p.length=n∧q.length=n:=by
  intro z0 z1 z3 z5 z6 z16 z17 z18 z19
  refine LV (tsP m l x t ea n) n _ ?_ ?_ ?_
  · refine⟨e0,[],[],?_,l0,rfl,rfl⟩
    simp only[tsV,Int.natCast_zero,Int.sub_zero];rfl
  · rintro j s hj ⟨e,p,q,rfl,l1,h1,h2⟩
    obtain⟨v,e1,nx,l2,v1,v2⟩:=pV l1 (m.places.length+1) (by omega) (by omega)
    obtain⟨u,e2,nu,l3,u1,u2⟩:=pV l2 2 (by omega) (by omega)
    refine .inl ⟨_,?_,e2,p++[v],q++[(n:Int)-j+u],rfl,l3,by simp[h1],by simp[h2]⟩
    have g1:((n:Int)-j>0):=by omega
    have g2:(n:Int)-((j+1:Nat):Int)=(n:Int)-j-1:=by omega
    simp only[tsV,tsG,g2,List.length_append,List.length_singleton,List.map_append,List.map_cons,List.map_nil]
    obtain⟨places,roads⟩:=m
    obtain⟨⟨xp,xr⟩,time,people,tags,readers,numbers,looked,missed⟩:=x
    simp only[af,Tru.cs,List.map_cons,List.map_nil]at*
    generalize (n:Int)-j=w at*
    simp (disch:=omega) only[go_sem,K.dN,↓reduceIte,nx,nu,g1,Nat.reduceAdd,Nat.reduceSub]
  · rintro s ⟨e,p,q,rfl,l1,h1,h2⟩
    refine⟨(.exit 0,⟨tsV t ea l p q 0,tsG e m l x p q⟩),?_,by simp,e,p,q,rfl,l1,h1,h2⟩
    obtain⟨⟨xp,xr⟩,time,people,tags,readers,numbers,looked,missed⟩:=x
    simp only[tsV,tsG,Int.sub_self,Tru.cs,List.map_cons,List.map_nil]
    simp (disch:=omega) only[go_sem,K.dN,↓reduceIte,Nat.reduceAdd,Nat.reduceSub]
 obtain⟨r,hr,e,p,q,rfl,a,b,c⟩:=key .und .und .und .und .und .und .und .und .und
 exact⟨e,p,q,a,b,c,fun z0 z1 z3 z5 z6 z16 z17 z18 z19=>by
  rw[← hr]
  show gA true _ _ ⟨eD _ _,_⟩=gA true _ _ ⟨eD _ _,_⟩
  simp (disch:=omega) only[go_sem,Nat.reduceAdd,Nat.reduceSub]⟩
theorem Bg:yX.sz:=⟨by simp,by simp,by simp,by simp,by simp,by simp,by simp,by simp,by simp,by simp⟩
theorem sg{m:bP}(hm:m.ok)(l:List Rdr)(at' tags:List Int)(t:Int)(hl:l.length≤1000000)(h2:∀y∈l,y.pl.length≤1000000)(ha:at'.length≤1000000)(ht:tags.length≤1000000):(jA m l at' tags t).1.sz:=by
 unfold jA
 repeat' split
 all_goals first | exact Bg | exact oX hm l at' tags t hl h2 ha ht
theorem yY(aw:br 0 N.cK [] []=some (B true,[]))(li:List Int)(ss:List (List Int))(t:Int):br 0 N.aD [.t (tL li),.t (.sl (ss.map tL)),I t] []=some (B true,[]):=by
 refine aO K.en rfl ?_
 have lo:=Az li
 by_cases c:li.length≤400
 · simp only[c,decide_true]at lo
   by_cases c10:ss.length>10
   · simp (disch:=omega) only[go_sem,K.aD,↓reduceIte,lo,c10,aw,Nat.reduceAdd,Nat.reduceSub]
   · have ro:=LW li
     have d0:(aB.mk li 0).bT:=c
     generalize (aB.mk li 0)=d at*
     obtain⟨m,e1,mo,l1,hm,p1,p2,r1,r2⟩:=LX d0
     obtain⟨l,e2,l2,ll,lr, -,ra⟩:=yW l1 hm (by omega)
     have lp:∀y∈l,y.pl.length≤1000000:=fun y hy=>by have:=(lr y hy).l;omega
     have nm:=B0 t 1000 (by omega)
     obtain⟨n,e3,nx,l3,n1,n2⟩:=pV l2 14 (by omega) (by omega)
     obtain⟨n,rfl⟩:=Int.eq_ofNat_of_zero_le n1
     have fin:∀(at' tags:List Int),at'.length≤30→tags.length≤30→∃(x:Tru) (ea:Int) (e4:aB) (p q:List Int) (e5:aB) (f:Bool),
      x.sz∧br 0 N.aU [.t m.e,.t (.sl (l.map Rdr.e)),.t (tL at'),.t (tL tags),I t] []=some (.tup [.t (Tru.e x),I ea],[])∧
      br 0 N.aR [.t m.e,.t (.sl (l.map Rdr.e)),.t (tL at'),.t (tL tags),I t] []=some (.tup [.t (Tru.e x),I ea],[])∧
      br 0 N.cj [.t x.e,.t x.e,I ea,I ea] []=some (B true,[])∧e4.bT∧p.length=n∧q.length=n∧
      (∀z0 z1 z3 z5 z6 z16 z17 z18 z19:D,
       exS br K.cP ⟨[z0,z1,I t,z3,.bp 0 0,z5,z6,.bp 1 0,.ref 2 0 l.length,.bp 3 0,I ea,.bp 4 0,I ea,.ref 5 0 0,.ref 6 0 0,I n,z16,z17,z18,z19],tsG e3 m l x [] []⟩=some (.exit 0,⟨tsV t ea l p q 0,tsG e4 m l x p q⟩))∧
      br 0 N.a8 [.bp 0 0,I 4] [e4.obj]=some (B f,[e5.obj])∧e5.bT:=by
      intro at' tags ha ht
      have s1:=r9 hm l at' tags t (by omega) lp (by omega) (by omega)
      have s2:=oY hm l at' tags t (by omega) lp (by omega) (by omega)
      have sz:=sg hm l at' tags t (by omega) lp (by omega) (by omega)
      have sm:=r6 _ sz (jA m l at' tags t).2
      obtain⟨e4,p,q,l4,q1,q2,lp⟩:=GH l3 m (by omega) l (by omega) (jA m l at' tags t).1 t (jA m l at' tags t).2 n (by omega)
      obtain⟨f,e5,on,l5⟩:=RA l4 4 (by omega) (by omega)
      exact⟨_,_,e4,p,q,e5,f,sz,s1,s2,sm,l4,q1,q2,lp,on,l5⟩
     have last:∀(l':List Rdr) (p q:List Int),(∀y∈l',y.pl.length≤1000000)→l'.length≤10→p.length≤100→q.length≤100→∃x ea,
      br 0 N.aU [.t m.e,.t (.sl (l'.map Rdr.e)),.t (tL p),.t (tL q),I (Mod t 1000)] []=some (.tup [.t (Tru.e x),I ea],[])∧
      br 0 N.aR [.t m.e,.t (.sl (l'.map Rdr.e)),.t (tL p),.t (tL q),I (Mod t 1000)] []=some (.tup [.t (Tru.e x),I ea],[])∧
      br 0 N.cj [.t x.e,.t x.e,I ea,I ea] []=some (B true,[]):=by
      intro l' p q h2 h3 ha ht
      exact⟨_,_,r9 hm l' p q _ (by omega) h2 (by omega) (by omega),oY hm l' p q _ (by omega) h2 (by omega) (by omega),r6 _ (sg hm l' p q _ (by omega) h2 (by omega) (by omega)) _⟩
     have key:∀(at' tags:List Int),at'.length≤30→tags.length≤30→(ss.length>1→∃r,ss=at'::tags::r)→(¬ss.length>1→at'=[]∧tags=[])→
      (exS br K.aD.body { vs:=i6 [.t (tL li),.t (.sl (ss.map tL)),I t] K.aD.vars,H:=[]}).bind (JU K.aD.res 0 0)=some (B true,[]):=by
      intro at' tags ha ht hs hn
      obtain⟨x,ea,e4,p,q,e5,f,sz,s1,s2,sm,l4,q1,q2,lp1,on,l5⟩:=fin at' tags ha ht
      obtain⟨⟨xp,xr⟩,time,people,xtags,readers,numbers,looked,missed⟩:=x
      cases f with
      | false=>
        obtain⟨y,eb,t1,t2,tm⟩:=last l p q lp (by omega) (by omega) (by omega)
        obtain⟨⟨yp,yr⟩,ytime,ypeople,ytags,yreaders,ynumbers,ylooked,ymissed⟩:=y
        obtain⟨places,roads⟩:=m
        simp only[af,bP.e,tsV,tsG,List.map_nil,Tru.e,Tru.cs,List.map_cons,rdH]at*
        by_cases c1:ss.length>1
        · obtain⟨r,rfl⟩:=hs c1
          have ex0:((at'::tags::r).map tL)[0]?=some (tL at'):=rfl
          have ex1:((at'::tags::r).map tL)[1]?=some (tL tags):=rfl
          generalize hss:at'::tags::r=w at*
          have ca:¬at'.length>30:=by omega
          have cb:¬tags.length>30:=by omega
          simp (disch:=omega) only[go_sem,K.aD,↓reduceIte,lo,c10,c1,aw,ex0,ex1,ca,cb,ro,mo,ra,s1,s2,sm,nx,lp1,on,nm,t1,t2,tm,Bool.false_eq_true,Nat.reduceAdd,Nat.reduceSub]
        · obtain⟨rfl,rfl⟩:=hn c1
          simp only[tL,List.map_nil]at*
          simp (disch:=omega) only[go_sem,K.aD,↓reduceIte,lo,c10,c1,aw,ro,mo,ra,s1,s2,sm,nx,lp1,on,nm,t1,t2,tm,Bool.false_eq_true,Nat.reduceAdd,Nat.reduceSub]
      | true=>
        obtain⟨o,e6,o1,l6,oi⟩:=RB l5 [0,601] (by simp) (by simp)
        obtain⟨y,eb,t1,t2,tm⟩:=last (l++[⟨[0],o,0,0⟩]) p q (fun y hy=>by
         rcases List.mem_append.1 hy with h | h
         · exact lp y h
         · rw[List.mem_singleton.1 h];simp) (by simp;omega) (by omega) (by omega)
        have e1:(l++[(⟨[0],o,0,0⟩:Rdr)]).map Rdr.e=l.map Rdr.e++[.agg [.sl [.int .i64 0],.int .i64 o,.int .i64 0,.int .i64 0]]:=by rw[List.map_append];rfl
        rw[e1]at t1 t2
        obtain⟨⟨yp,yr⟩,ytime,ypeople,ytags,yreaders,ynumbers,ylooked,ymissed⟩:=y
        obtain⟨places,roads⟩:=m
        simp only[af,bP.e,tsV,tsG,List.map_nil,Tru.e,Tru.cs,List.map_cons,rdH,List.map_append,tL]at*
        by_cases c1:ss.length>1
        · obtain⟨r,rfl⟩:=hs c1
          have ex0:((at'::tags::r).map tL)[0]?=some (tL at'):=rfl
          have ex1:((at'::tags::r).map tL)[1]?=some (tL tags):=rfl
          generalize hss:at'::tags::r=w at*
          have ca:¬at'.length>30:=by omega
          have cb:¬tags.length>30:=by omega
          simp (disch:=omega) only[go_sem,K.aD,↓reduceIte,lo,c10,c1,aw,ex0,ex1,ca,cb,ro,mo,ra,s1,s2,sm,nx,lp1,on,nm,o1,t1,t2,tm,List.map_append,List.map_cons,List.map_nil,Nat.reduceAdd,Nat.reduceSub]
        · obtain⟨rfl,rfl⟩:=hn c1
          simp only[tL,List.map_nil]at*
          simp (disch:=omega) only[go_sem,K.aD,↓reduceIte,lo,c10,c1,aw,ro,mo,ra,s1,s2,sm,nx,lp1,on,nm,o1,t1,t2,tm,List.map_append,List.map_cons,List.map_nil,Nat.reduceAdd,Nat.reduceSub]
     by_cases c1:ss.length>1
     · obtain⟨a,b,r,rfl⟩:∃a b r,ss=a::b::r:=by
        match ss,c1 with
        | a::b::r,_=>exact⟨a,b,r,rfl⟩
       have ex0:((a::b::r).map tL)[0]?=some (tL a):=rfl
       have ex1:((a::b::r).map tL)[1]?=some (tL b):=rfl
       by_cases ca:a.length>30
       · clear key
         generalize hss:a::b::r=q at*
         simp (disch:=omega) only[go_sem,K.aD,↓reduceIte,lo,c10,c1,aw,ex0,ex1,ca,Nat.reduceAdd,Nat.reduceSub]
       · by_cases cb:b.length>30
         · clear key
           generalize hss:a::b::r=q at*
           simp (disch:=omega) only[go_sem,K.aD,↓reduceIte,lo,c10,c1,aw,ex0,ex1,ca,cb,Nat.reduceAdd,Nat.reduceSub]
         · exact key a b (by omega) (by omega) (fun _=>⟨r,rfl⟩) (fun x=>absurd c1 x)
     · exact key [] [] (by simp) (by simp) (fun x=>absurd x c1) (fun _=>⟨rfl,rfl⟩)
 · simp only[c,decide_false]at lo
   simp (disch:=omega) only[go_sem,K.aD,↓reduceIte,lo,aw,Nat.reduceAdd,Nat.reduceSub]
end Go.Ev
