/- Parts of the proof: see the text that holds the theorem. -/
import Derived.Test.YtafioeehabcnhaaZ3
set_option linter.all false
set_option maxRecDepth 100000
namespace Go.Ev.K
open Go.Ev
end Go.Ev.K
namespace Go.Ev
class fT [Lib]:Prop where
namespace K
variable [Lib] [fT]
end K
end Go.Ev
namespace Go.Ev.K
open Go.Ev
def aG:Fn:={ nargs:=1,vars:=[0,2],body:=(.seq (.reg [w 1 (.mv (.c (.nil)))] []) (.itk [m v0,u (.eqk (.sl) false l0 (.c (.nil)))] [] 0 (.seq (.reg [w 1 (.nw 2)] []) .ret) .skip (.seq (.reg [u (.bsr [] 2),m v0,u (.app l1 l0 false 2),w 1 (.mv l0)] []) .ret))),res:=[(1,none)]}
def aJ:Fn:={ nargs:=1,vars:=[0,2],body:=(.seq (.reg [w 1 (.mv (.c (.nil)))] []) (.itk [m v0,u (.eqk (.sl) false l0 (.c (.nil)))] [] 0 (.seq (.reg [w 1 (.nw 10)] []) .ret) .skip (.seq (.reg [u (.bsr [] 10),m v0,u (.app l1 l0 false 10),w 1 (.mv l0)] []) .ret))),res:=[(1,none)]}
end Go.Ev.K
namespace Go.Ev
class fw [Lib]:Prop where
 cU:Lib.fs N.aG=some K.aG
 dg:Lib.fs N.aJ=some K.aJ
namespace K
variable [Lib] [fw]
theorem cU:Lib.fs N.aG=some K.aG:=fw.cU
theorem dg:Lib.fs N.aJ=some K.aJ:=fw.dg
end K
end Go.Ev
namespace Go.Ev
open Go
variable [Lib] [bT] [bU] [dL] [dI] [dF] [dC] [eO] [eD] [fT] [fw]
end Go.Ev
namespace Go.Ev
open Go
variable [Lib] [bT] [bU] [dL] [dI] [fP] [dF] [dC] [eO] [eD] [cE] [cO]
end Go.Ev
namespace Go.Ev
open Go
variable [Lib] [bT] [bU] [eO] [eD]
end Go.Ev
namespace Go.Ev
open Go
variable [Lib] [bT] [bU] [dL] [dI] [dF] [dC] [eO] [eD]
end Go.Ev
namespace Go.Ev
open Go
variable [Lib] [bT] [bU]
section
variable {m : cJ} (hm : m.ok) {N : Nat} {b : Bel} (hb : BOk m N b) {s : Wh} (hs : s.frm.length = m.places.length) {l : List Mch}
variable (hl : ∀ y ∈ l, y.pl.length ≤ m.places.length ∧ 1 ≤ y.pl.length ∧ ∀ x ∈ y.pl, 0 ≤ x ∧ x < m.places.length) {t a : Int} (t0 : 0 ≤ t) (t1 : t ≤ 10000) (a0 : 0 ≤ a) (a1 : a ≤ 10000) (d : aR)
include hm hb hs hl t0 t1 a0 a1
omit hm hb t0 t1 a1 in
end
def aR.skip(d:aR)(n:Int):Nat→aR
 | 0=>d
 | k+1=>((d.skip n k).next n).2
end Go.Ev
namespace Go.Ev
open Go
variable [Lib] [bT] [bU] [fP]
end Go.Ev
namespace Go.Ev
open Go
variable [Lib] [bT] [bU] [dL] [dI] [fP] [dF] [dC] [eO] [eD]
end Go.Ev
namespace Go.Ev
open Go
variable [Lib] [bT] [bU] [dL] [dI] [fP] [dF] [dC] [eO] [eD] [cE] [cO]
def lexB:List Int→List Int→Bool
 | _,[]=>false
 | [],_::_=>true
 | a::r,b::s=>decide (a<b)||(decide (a=b)&&lexB r s)
structure WV(m:cJ)(first:List Int)(x:World):Prop where
 pm:x.tags.Perm first
 wl:x.whr.length=first.length
 wv:∀w∈x.whr,wg m w=true
structure BV(m:cJ)(first:List Int)(ws:List World):Prop where
 pr:ft first=true
 f1:1≤first.length
 f2:first.length≤12
 wv:∀x∈ws,WV m first x
 up:ws.Pairwise fun x y=>lexB x.tags y.tags=true
theorem yh{a b:List Int}(h:a.Perm b)(hb:ft b=true):ft a=true:=by
 rw[nL]at hb ⊢
 exact⟨h.nodup_iff.2 hb.1,fun x hx=>hb.2 x (h.mem_iff.1 hx)⟩
end Go.Ev
namespace Go.Ev.K
open Go.Ev
end Go.Ev.K
namespace Go.Ev
class ea [Lib]:Prop where
namespace K
variable [Lib] [ea]
end K
end Go.Ev
namespace Go.Ev.K
open Go.Ev
end Go.Ev.K
namespace Go.Ev
class eb [Lib]:Prop where
namespace K
variable [Lib] [eb]
end K
end Go.Ev
namespace Go.Ev
open Go
variable [Lib] [bT] [bU] [dL] [dI] [fP] [dF] [dC] [eO] [eD] [cE] [cO] [ea] [eb]
end Go.Ev
namespace Go.Ev
open Go
variable [Lib] [bT] [bU] [dL] [dI] [fP] [dF] [dC] [eO] [eD]
end Go.Ev
namespace Go.Ev
open Go
variable [Lib] [bT] [bU] [dL] [dI] [fP] [dF] [dC] [eO] [eD] [cE] [cO]
structure SH(n p:Nat)(l:List Wh):Prop where
 ln:l.length=n
 fr:∀w∈l,w.frm.length=p
theorem WV.sh{m:cJ}{first:List Int}{x:World}(h:WV m first x):SH first.length m.places.length x.whr:=
 ⟨h.wl,fun w hw=>(xZ (h.wv w hw)).1⟩
end Go.Ev
namespace Go.Ev
open Go
variable [Lib] [bT] [bU] [dL] [dI] [fP] [dF] [dC] [eO] [eD] [cE] [cO] [ea] [eb]
theorem Rp.more{H:aj}{id:Nat}{es:List D}{fa fb:Nat→Nat}{out:List World}(hr:Rp H id es fa fb out)(t:aj):Rp (H++t) id es fa fb out:=
 ⟨by rw[mS (r7 hr.arr)];exact hr.arr,hr.len,hr.el,fun j hj=>by rw[mS (r7 (hr.ha j hj))];exact hr.ha j hj,fun j hj=>by rw[mS (r7 (hr.hb j hj))];exact hr.hb j hj,hr.na,hr.nb,hr.nab,hr.nbb⟩
end Go.Ev
namespace Go.Ev
open Go
variable [Lib] [bT] [bU] [dL] [dI] [fP] [dF] [dC] [eO] [eD] [cE] [cO]
end Go.Ev
namespace Go.Ev
open Go
variable [Lib] [bT] [bU] [dF] [dC]
abbrev FP:Int:=2147483648
section
variable {m : cJ} (h : m.ok) {fl : List Spn}
include h
end
end Go.Ev
namespace Go.Ev
open Go
def clP(m:cJ)(fl:List Spn)(y:List Int):Prop:=∀k,k<m.roads.length→∀back,0≤pB (nth m.roads k) (nth fl k) back→
 nth y ((nth m.roads k).src back).toNat+pB (nth m.roads k) (nth fl k) back≤FP→
 nth y ((nth m.roads k).dst back).toNat≤nth y ((nth m.roads k).src back).toNat+pB (nth m.roads k) (nth fl k) back
variable [Lib] [bT] [bU] [dF] [dC]
end Go.Ev
namespace Go.Ev
open Go
variable [Lib] [bT] [bU] [dF] [dC]
def W8(l:List Int):Prop:=∀x∈l,0≤x∧(x≤FP∨x=1099511627776)
theorem W8.bnd{l:List Int}(h:W8 l):bnd l:=fun x hx=>by have:=h x hx;simp only[FP]at this;omega
end Go.Ev
namespace Go.Ev
open Go
variable [Lib] [bT] [bU] [dL] [dI] [dF] [dC]
structure RD(m:cJ)(fl:List Spn)(s:Wh):Prop where
 ln:s.frm.length=m.places.length
 ti:inT s.time
 tm:W8 s.frm
 lo:∀x∈s.frm,s.time≤x
 cl:clP m fl s.frm
theorem RD.valid{m:cJ}{fl:List Spn}{s:Wh}(h:RD m fl s):Cr m s=true:=by
 simp only[Cr,Bool.and_eq_true,decide_eq_true_eq,List.all_eq_true,List.mem_range]
 refine⟨fun j hj=>?_,h.ln,h.ti⟩
 have a:=h.tm _ (bg hj)
 have b:=h.lo _ (bg hj)
 unfold plS
 simp only[FP]at a
 omega
end Go.Ev
namespace Go.Ev
open Go
variable [Lib] [bT] [bU] [dL] [dI] [fP] [dF] [dC] [eO] [eD] [cE] [cO]
section
variable {m : cJ} (hm : m.ok) (l : List Mch) (hl : l.length ≤ 1000) (hp : ∀ x ∈ l, x.pl.length ≤ 1000000) (s : Wh) (hs : s.frm.length ≤ 1000000) (b : Bel) (hb : b.sz) (t a : Int)
include hm hl hp hs hb
end
end Go.Ev
namespace Go.Ev
open Go
variable [Lib] [bT] [bU] [dL] [dI] [dF] [dC]
end Go.Ev
namespace Go.Ev
open Go
variable [Lib] [bT] [bU]
def sh(s x:Int):Int:=if x<1099511627776 then x+s else x
def shL(s:Int)(l:List Int):List Int:=l.map (sh s)
@[simp] theorem W9 (s : Int) (l : List Int) : (shL s l).length = l.length := List.length_map ..
end Go.Ev
namespace Go.Ev
open Go
variable [Lib] [bT] [bU] [dL] [dI] [fP] [dF] [dC] [eO] [eD]
theorem r9(l:List Int)(x:Int){j:Nat}(hj:j<l.length):nth (l++[x]) j=nth l j:=by
 unfold nth;simp[List.getD_eq_getElem?_getD,List.getElem?_append_left hj]
theorem CZ(l:List Int)(x:Int):nth (l++[x]) l.length=x:=by
 unfold nth;simp[List.getD_eq_getElem?_getD]
theorem C0{l:List Int}{n:Nat}(h:uW l n=true):uW l ((n+1:Nat):Int)=true∧uW (l++[(n:Int)]) ((n+1:Nat):Int)=true:=by
 simp only[uW,List.all_eq_true,List.mem_range,decide_eq_true_eq]at h ⊢
 refine⟨fun j hj=>?_,fun j hj=>?_⟩
 · obtain⟨a,b,c⟩:=h j hj;exact⟨a,by omega,c⟩
 · by_cases c:j<l.length
   · obtain⟨a,b,c⟩:=h j c
     rw[r9 _ _ (by omega)]
     refine⟨a,by omega,fun hj=>?_⟩
     rw[r9 _ _ (by omega)];exact c hj
   · have e:j=l.length:=by simp at hj;omega
     subst e
     rw[CZ]
     refine⟨by omega,by omega,fun hj=>?_⟩
     rw[r9 _ _ (by omega)]
     exact(h (l.length-1) (by omega)).2.1
theorem tO(d:aR):∀n:Nat,uW (d.jm n).1 n=true
 | 0=>rfl
 | n+1=>by
   have ih:=tO d n
   have:=C0 ih
   simp only[aR.jm]
   split
   · exact this.2
   · exact this.1
end Go.Ev
namespace Go.Ev
open Go
variable [Lib] [bT] [bU] [dL] [dI] [fP] [dF] [dC] [eO] [eD] [cE] [cO]
end Go.Ev
namespace Go.Ev
open Go
variable [Lib] [bT] [bU] [dL] [dI] [fP] [dF] [dC] [eO] [eD] [cE] [cO] [ea] [eb]
end Go.Ev
namespace Go.Ev
open Go
variable [Lib] [bT] [bU] [dL] [dI]
def FQ(l:List Int)(t:Int):Nat→List Int
 | 0=>l
 | p+1=>if t<nth (FQ l t p) p then(FQ l t p).set p never else FQ l t p
def FR(m:cJ)(w:Wh)(t:Int):Wh:=⟨t,rZ m t none (FQ w.frm t w.frm.length)⟩
theorem wC{H H':aj}:∀(k:Nat) (d:D),(∀i∈dN H k d,∃sz pin pin' ep es,H[i]?=some (.arr sz pin ep es)∧H'[i]?=some (.arr sz pin' ep es))→frz H' k d=frz H k d∧dN H' k d=dN H k d:=by
 intro k
 induction k with
 | zero=>intro d _;cases d<;>exact⟨rfl,rfl⟩
 | succ k ih=>
   intro d h
   have list:∀es:List D,(∀i∈es.flatMap (dN H k),∃sz pin pin' ep es,H[i]?=some (.arr sz pin ep es)∧H'[i]?=some (.arr sz pin' ep es))→bX (frz H' k) es=bX (frz H k) es∧es.flatMap (dN H' k)=es.flatMap (dN H k):=by
    intro es
    induction es with
    | nil=>intro _;exact⟨rfl,rfl⟩
    | cons e es ihl=>
      intro he
      obtain⟨a1,a2⟩:=ih e fun i hi=>he i (by simp[hi])
      obtain⟨b1,b2⟩:=ihl fun i hi=>he i (by rw[List.flatMap_cons];exact List.mem_append_right _ hi)
      exact⟨by simp only[bX,a1,b1],by simp only[List.flatMap_cons,a2,b2]⟩
   cases d with
   | agg cs=>
     simp only[dN]at h
     obtain⟨a1,a2⟩:=list cs h
     exact⟨by simp only[frz,a1],by simp only[dN,a2]⟩
   | ref id ep n=>
     obtain⟨sz,pin,pin',ep',es,e1,e2⟩:=h id (by simp[dN])
     have:∀i∈es.flatMap (dN H k),∃sz pin pin' ep es,H[i]?=some (.arr sz pin ep es)∧H'[i]?=some (.arr sz pin' ep es):=fun i hi=>h i (by simp only[dN,e1];exact List.mem_cons_of_mem _ hi)
     obtain⟨a1,a2⟩:=list es this
     refine⟨?_,by simp only[dN,e1,e2,a2]⟩
     simp only[frz,eL,e1,e2]
     by_cases c:ep=ep'∧n=es.length
     · simp only[if_pos c,Option.bind_some,a1]
     · simp only[if_neg c,Option.bind_none]
   | sub id ep n lo hi=>
     obtain⟨sz,pin,pin',ep',es,e1,e2⟩:=h id (by simp[dN])
     have:∀i∈es.flatMap (dN H k),∃sz pin pin' ep es,H[i]?=some (.arr sz pin ep es)∧H'[i]?=some (.arr sz pin' ep es):=fun i hi=>h i (by simp only[dN,e1];exact List.mem_cons_of_mem _ hi)
     obtain⟨a1,a2⟩:=list es this
     have:∀i∈((es.drop lo).take (hi-lo)).flatMap (dN H k),∃sz pin pin' ep es,H[i]?=some (.arr sz pin ep es)∧H'[i]?=some (.arr sz pin' ep es):=fun i hi=>by
      obtain⟨e,he,hi⟩:=List.mem_flatMap.1 hi
      exact this i (List.mem_flatMap.2 ⟨e,List.mem_of_mem_drop (List.mem_of_mem_take he),hi⟩)
     obtain⟨b1,b2⟩:=list _ this
     refine⟨?_,by simp only[dN,e1,e2,a2]⟩
     simp only[frz,eL,e1,e2]
     by_cases c:ep=ep'∧n=es.length
     · simp only[if_pos c,Option.bind_some,b1]
     · simp only[if_neg c,Option.bind_none]
   | _=>exact⟨rfl,rfl⟩
section
variable {bm : cJ} (hm : bm.ok) {t : Int} (i : Nat) {H : aj} {io iB iO n a fbi tl : Nat} {es : List D} {whr : List Wh} (e1 : H[iO]? = some (.box [.ref io 0 n])) (e2 : H[io]? = some (.arr 2 false 0 es)) (e3 : es.length = n)
 (e4:es[i]?=some (.agg [.ref a 0 tl,.ref fbi 0 whr.length])) (e5:H[fbi]?=some (.arr 2 false 0 (whs whr))) (e6:H[iB]?=some (.box (aE bm))) (hi:i<n) (hn:n≤1000000) (hl:whr.length≤1000000)
include hm e1 e2 e3 e4 e5 e6 hi hn hl
end
theorem Rp.app{H:aj}{id:Nat}{es:List D}{fa fb:Nat→Nat}{out:List World}(hr:Rp H id es fa fb out)(t:aj):Rp (H++t) id es fa fb out:=
 ⟨by rw[mS (r7 hr.arr)];exact hr.arr,hr.len,hr.el,fun j hj=>by rw[mS (r7 (hr.ha j hj))];exact hr.ha j hj,fun j hj=>by rw[mS (r7 (hr.hb j hj))];exact hr.hb j hj,hr.na,hr.nb,hr.nab,hr.nbb⟩
structure SlH(H:aj)(b:List World)(bm:cJ)(iB iO io:Nat)(es:List D)(fa fb:Nat→Nat)(A:List Nat)(O:List World):Prop where
 h1:H[1]?=some (.box [.ref 3 0 b.length])
 h2:H[2]?=some (.box [.nil])
 hB:H[iB]?=some (.box (aE bm))
 hO:H[iO]?=some (.box [.ref io 0 O.length])
 rp:Rp H io es fa fb O
 ar:∀i∈A,∃sz pin ep es,H[i]?=some (.arr sz pin ep es)
 nA:∀i∈A,∀j,j<O.length→i≠fb j
 eA:dN H 7 (.ref 3 0 b.length)=A
 fr:frz H 7 (.ref 3 0 b.length)=some (.sl (b.map World.e))
theorem SlH.step{H:aj}{b:List World}{bm:cJ}{iB iO io:Nat}{es:List D}{fa fb:Nat→Nat}{A:List Nat}{O:List World}(h:SlH H b bm iB iO io es fa fb A O){i:Nat}(hi:i<O.length)(x:World)(ht:(nth O i).tags=x.tags)
 (hw:x.whr.length=(nth O i).whr.length) (o:Obj):SlH (H.set (fb i) (.arr 2 false 0 (whs x.whr))++[o]) b bm iB iO io es fa fb A (O.set i x):=by
 have hb:=h.rp.hb i hi
 have nb:∀ {k:Nat} {cs:List D},H[k]?=some (.box cs)→(H.set (fb i) (.arr 2 false 0 (whs x.whr))++[o])[k]?=some (.box cs):=fun{k cs} hk=>by
  have ne:fb i≠k:=fun e=>by rw[e,hk]at hb;cases hb
  rw[mS (by rw[List.length_set];exact r7 hk),kh ne];exact hk
 have na:∀k∈A,(H.set (fb i) (.arr 2 false 0 (whs x.whr))++[o])[k]?=H[k]?:=fun k hk=>by
  obtain⟨sz,pin,ep,es',e⟩:=h.ar k hk
  rw[mS (by rw[List.length_set];exact r7 e),kh (fun e=>h.nA k hk i hi e.symm)]
 have fc:=wC (H:=H) (H':=H.set (fb i) (.arr 2 false 0 (whs x.whr))++[o]) 7 (.ref 3 0 b.length) (fun k hk=>by
  rw[h.eA]at hk
  obtain⟨sz,pin,ep,es',e⟩:=h.ar k hk
  exact⟨sz,pin,pin,ep,es',e,by rw[na k hk];exact e⟩)
 refine⟨nb h.h1,nb h.h2,nb h.hB,by rw[List.length_set];exact nb h.hO,(h.rp.merge hi x ht hw).app _,fun k hk=>?_,by rw[List.length_set];exact h.nA,by rw[fc.2];exact h.eA,by rw[fc.1];exact h.fr⟩
 obtain⟨sz,pin,ep,es',e⟩:=h.ar k hk
 exact⟨sz,pin,ep,es',by rw[na k hk];exact e⟩
def SlE(b:List World)(H:aj):Prop:=H[2]?=some (.box [.ref 3 0 b.length])∧frz H 7 (.ref 3 0 b.length)=some (.sl (b.map World.e))
theorem SlH.late{H:aj}{b:List World}{bm:cJ}{iB iO io:Nat}{es:List D}{fa fb:Nat→Nat}{A:List Nat}{O:List World}(h:SlH H b bm iB iO io es fa fb A O)(o:Obj):SlE b (H.set 2 (.box [.ref 3 0 b.length])++[o]):=by
 have l2:=r7 h.h2
 have fc:=wC (H:=H) (H':=H.set 2 (.box [.ref 3 0 b.length])++[o]) 7 (.ref 3 0 b.length) (fun k hk=>by
  rw[h.eA]at hk
  obtain⟨sz,pin,ep,es',e⟩:=h.ar k hk
  have ne:2≠k:=fun e2=>by rw[← e2,h.h2]at e;cases e
  exact⟨sz,pin,pin,ep,es',e,by rw[mS (by rw[List.length_set];exact r7 e),kh ne];exact e⟩)
 exact⟨by rw[mS (by rw[List.length_set];exact l2),tM l2],by rw[fc.1];exact h.fr⟩
end Go.Ev
namespace Go.Ev
open Go
variable [Lib] [bT] [bU] [dL] [dI]
end Go.Ev
namespace Go.Ev
open Go
variable [Lib] [bT] [bU] [dL] [dI] [fP] [dF] [dC] [eO] [eD] [cE] [cO] [ea] [eb] [fT] [fw]
theorem mB(l:List Place)(hl:l.length≤1000000):aT 0 N.aG [.t (.sl (l.map Place.e))] []=some (.t (.sl (l.map Place.e)),[]):=by
 refine aB K.cU rfl ?_
 by_cases h0:l=[]
 · subst h0
   simp only[List.map_nil]
   simp (disch:=omega) only[go_sem,K.aG,↓reduceIte,List.map_nil,Nat.reduceAdd,Nat.reduceSub]
 · have e:=fun H=>mw H (l.map Place.e) (by simpa using h0)
   simp (disch:=omega) only[go_sem,K.aG,↓reduceIte,e,Nat.reduceAdd,Nat.reduceSub]
end Go.Ev
namespace Go.Ev
open Go
variable [Lib] [bT] [bU] [dL] [dI] [fP] [dF] [dC] [eO] [eD] [cE] [cO]
def AW(P:Wh→Prop)(ws:List World):Prop:=∀x∈ws,∀w∈x.whr,P w
structure Kept(m:cJ)(T:Int)(P:Wh→Prop):Prop where
 see:∀w l a b,P w→b≤T→P (Yb m w l a b).1
 abs:∀w l a b bl,P w→b≤T→P (Yd m w l a b bl).1
 raise:∀w t,P w→t≤T→P (Cn w t).1
 join:∀a b,P a→P b→a.frm.length=b.frm.length→P (Co a b).1
theorem AW.set{P:Wh→Prop}{x:World}(h:∀w∈x.whr,P w)(tag:Int){w:Wh}(hw:(gx x.tags tag).toNat<x.whr.length→P w):∀y∈(T5 tag x w).whr,P y:=by
 intro y hy
 simp only[T5]at hy
 by_cases c:(gx x.tags tag).toNat<x.whr.length
 · rcases List.mem_or_eq_of_mem_set hy with a | rfl
   · exact h y a
   · exact hw c
 · rw[List.set_eq_of_length_le (by omega)]at hy;exact h y hy
end Go.Ev
namespace Go.Ev
open Go
variable [Lib] [bT] [bU] [dL]
end Go.Ev
namespace Go.Ev
open Go
variable [Lib] [bT] [bU] [dL] [dI] [fP] [dF] [dC] [eO] [eD] [cE] [cO] [ea] [eb] [fT] [fw]
structure SlF(bm:cJ)(w:Wh)(t:Int):Prop where
 ln:(FR bm w t).frm.length=bm.places.length
 bd:bnd (FR bm w t).frm
 cl:clW bm t none (FR bm w t).frm
 le:∀j,j<bm.places.length→nth (FR bm w t).frm j≤if t<nth w.frm j then 1099511627776 else nth w.frm j
theorem RE{d:aR}(hd:d.dk)(n:Nat)(hn:n≤1000000):
 ∃(l:List Int) (e:aR),aT 0 N.cF [.bp 0 0,I n] [d.obj]=some (.t (tL l),[e.obj])∧e.dk∧l.length≤n∧uW l n=true:=
 ⟨_,_,J2 d n hn hd,aR.nF hd n,d.rX n,tO d n⟩
section
variable (e : aR) {m bm : cJ} (b c : Bel) (t : Int) (l : List Int)
end
end Go.Ev
namespace Go.Ev.N
def Ay:Nat:=334
def A8:Nat:=335
def bK:Nat:=336
def dT:Nat:=337
def bE:Nat:=338
def gr:Nat:=339
def b5:Nat:=340
def Oq:Nat:=341
def gu:Nat:=342
def dy:Nat:=343
def ag:Nat:=344
def Ub:Nat:=345
def Eg:Nat:=346
def Lm:Nat:=347
def fQ:Nat:=348
def gV:Nat:=349
def bY:Nat:=350
def eF:Nat:=351
def dt:Nat:=352
def fj:Nat:=353
def dj:Nat:=354
def cy:Nat:=355
def de:Nat:=356
def Ot:Nat:=357
def eG:Nat:=358
def cg:Nat:=359
def dD:Nat:=360
def fe:Nat:=361
def Ln:Nat:=362
def FT:Nat:=363
def cP:Nat:=364
def ez:Nat:=365
def dM:Nat:=366
def ah:Nat:=367
def aU:Nat:=368
def bu:Nat:=369
def ao:Nat:=370
def aq:Nat:=371
def cK:Nat:=372
def ax:Nat:=373
def cL:Nat:=374
def cZ:Nat:=375
def c7:Nat:=376
def cQ:Nat:=377
def bC:Nat:=378
def aC:Nat:=379
def aI:Nat:=380
def ch:Nat:=381
def aW:Nat:=382
def aX:Nat:=383
end Go.Ev.N
namespace Go.Ev.K
open Go.Ev
def bK:Fn:={ nargs:=1,vars:=[0,2,3,4,5,6,7,8,9,10,11,12,13,15,16,17],body:=(.seq (.reg [w 1 (.mv (.b false))] []) (.seq (.ite [m v0,u (.ca N.fL 0 [] [.l 0]),u (.un .not l0)] [] 0 (.seq (.reg [u (.ca N.dT 0 [] []),w 1 (.mv l0)] []) .ret) .skip) (.seq (.reg [m v0,u (.ca N.gD 0 [] [.l 0]),w 2 (.mv l0)] []) (.seq (.reg [m v2,u (.ca N.fQ 0 [] [.l 0,.i 15]),w 3 (.al [.nil,.nil,.t (.int .i64 (0)),.nil,.nil,.nil,.nil,.nil,.nil] []),u (.st l0 l1 9 [])] []) (.seq (.ite [f 5 v3,g l0,u (.ln l0),u (.bin .eql l0 (.i 0))] [] 0 (.seq (.reg [u (.ca N.dT 0 [] []),w 1 (.mv l0)] []) .ret) .skip) (.seq (.reg [m v2,f 5 v3,g l0,u (.ln l0),u (.ca N.aF 0 [] [.l 3,.l 0]),w 4 (.mv l0)] []) (.seq (.reg [h 9 v3,m v4,u (.ca N.ag 0 [] [.l 1,.l 0,.i 0,.i 0]),m l0,u (.ex l0 0),u (.ex l1 1),u (.ex l2 2),w 5 (.al [.nil,.nil,.t (.int .i64 (0)),.nil,.nil,.nil,.nil,.nil,.nil] []),w 6 (.al [.t (.int .i64 (0)),.t (.int .i64 (0)),.t (.int .i64 (0)),.nil] []),u (.st l1 l4 9 []),u (.st l1 l4 4 []),w 7 (.mv l4)] []) (.seq (.reg [h 9 v5,m v4,u (.ca N.ag 0 [] [.l 1,.l 0,.i 0,.i 0]),m l0,u (.ex l0 0),u (.ex l1 1),u (.ex l2 2),w 8 (.al [.nil,.nil,.t (.int .i64 (0)),.nil,.nil,.nil,.nil,.nil,.nil] []),w 9 (.al [.t (.int .i64 (0)),.t (.int .i64 (0)),.t (.int .i64 (0)),.nil] []),u (.st l1 l4 9 []),u (.st l1 l4 4 []),w 10 (.mv l4)] []) (.seq (.reg [w 11 (.al [.nil,.nil,.t (.int .i64 (0)),.nil,.nil,.nil,.nil,.nil,.nil] []),h 9 v8,f 5 v3,g l0,m v4,a 4 l1 l0,f 1 l0,g l0,m v2,u (.ca N.aF 0 [] [.l 0,.i 2]),u (.bin .add l2 l0),u (.ca N.dy 0 [] [.l 9,.l 0]),m l0,u (.ex l0 0),u (.ex l1 1),u (.st (.l 14) l1 9 []),w 12 (.mv l1)] [(0,10),(0,12),(1,10),(3,10),(5,10),(7,10)]) (.seq (.ite [m v7,u (.bin .neq l0 (.i 0)),m l0,y 0 false (.mv v10),y 1 false (.bin .neq l0 (.i 0)),u (.pk l2 (.b true) l0),m l0,y 0 false (.mv v12),y 1 false (.bin .neq l0 (.i 0)),u (.pk l2 (.b true) l0)] [] 0 (.seq (.reg [w 1 (.mv (.b false))] []) .ret) .skip) (.seq (.reg [h 9 v11,m v4,u (.ca N.ag 0 [] [.l 1,.l 0,.i 0,.i 0]),m l0,u (.ex l0 0),u (.ex l1 1),u (.ex l2 2),u (.al [.nil,.nil,.t (.int .i64 (0)),.nil,.nil,.nil,.nil,.nil,.nil] []),w 13 (.al [.t (.int .i64 (0)),.t (.int .i64 (0)),.t (.int .i64 (0)),.nil] []),u (.st l1 l4 9 []),u (.st l1 l4 4 []),w 14 (.mv l4)] []) (.seq (.reg [w 15 (.mv (.i 1))] []) (.seq (.ite [f 2 v11,g l0,f 2 v8,g l0,u (.bin .sub l2 l0),f 5 v3,g l0,m v4,a 4 l1 l0,f 1 l0,g l0,u (.bin .gtr l6 l0)] [] 0 (.reg [w 15 (.mv (.i 2))] []) .skip) (.seq (.reg [u (.ca N.dT 0 [] []),m l0,y 0 true (.mv v14),y 1 true (.bin .eql l0 (.i 0)),u (.pk l2 l0 (.b false)),m l0,y 0 true (.fa v6 3),y 1 true (.ld l0 1 false),y 2 true (.fa v9 3),y 3 true (.ld l0 1 false),y 4 true (.ca N.ct 0 [] [.l 2,.l 0]),u (.pk l5 l0 (.b false)),m l0,y 0 true (.fa v9 1),y 1 true (.ld l0 1 false),y 2 true (.fa v6 1),y 3 true (.ld l0 1 false),y 4 true (.bin .add l0 (.i 1)),y 5 true (.bin .rem l0 (.i 65536)),y 6 true (.bin .eql l4 l0),u (.pk l7 l0 (.b false)),m l0,y 0 true (.fa v6 2),y 1 true (.ld l0 1 false),y 2 true (.fa v9 2),y 3 true (.ld l0 1 false),y 4 true (.bin .eql l2 l0),u (.pk l5 l0 (.b false)),m l0,y 0 true (.fa v13 1),y 1 true (.ld l0 1 false),y 2 true (.fa v9 1),y 3 true (.ld l0 1 false),y 4 true (.mv v15),y 5 true (.bin .add l1 l0),y 6 true (.bin .rem l0 (.i 65536)),y 7 true (.bin .eql l5 l0),u (.pk l8 l0 (.b false)),w 1 (.mv l0)] []) .ret)))))))))))))),res:=[(1,none)]}
def dT:Fn:={ nargs:=0,vars:=[0,1,2,3,4,6,7,8,10,11],body:=(.seq (.reg [w 0 (.mv (.b false))] []) (.seq (.reg [u (.ca N.gV 0 [] []),u (.bs [.i 1] 1),u (.bd [.nil,.t (.int .i64 (0)),.t (.int .i64 (0)),.t (.int .i64 (0))] [(0,1,.l 0),(1,1,.i 10)]),u (.bs [.l 0] 4),u (.bs [.i 0] 1),u (.bs [.i 9] 1),u (.ca N.gr 0 [] [.l 5,.l 2,.l 1,.l 0,.i 0]),m l0,u (.ex l0 0),u (.ex l1 1),w 1 (.al [.nil,.nil,.t (.int .i64 (0)),.nil,.nil,.nil,.nil,.nil,.nil] []),u (.st l0 l2 9 []),w 2 (.mv l2)] []) (.seq (.reg [h 9 v1,u (.ca N.gu 0 [] [.l 0,.i 0,.i 0,.i 0]),m l0,u (.ex l0 0),u (.ex l1 1),u (.st v1 l1 9 []),w 3 (.mv l1)] []) (.seq (.reg [h 9 v1,u (.ca N.dy 0 [] [.l 0,.i 6]),m l0,u (.ex l0 0),u (.ex l1 1),u (.st v1 l1 9 []),w 4 (.mv l1)] []) (.seq (.reg [h 9 v1,u (.ca N.ag 0 [] [.l 0,.i 0,.i 0,.i 0]),m l0,u (.ex l0 0),u (.ex l1 1),u (.ex l2 2),u (.al [.nil,.nil,.t (.int .i64 (0)),.nil,.nil,.nil,.nil,.nil,.nil] []),w 5 (.al [.t (.int .i64 (0)),.t (.int .i64 (0)),.t (.int .i64 (0)),.nil] []),u (.st l1 l4 9 []),u (.st l1 l4 4 []),w 6 (.mv l4)] []) (.seq (.reg [h 9 v1,u (.ca N.dy 0 [] [.l 0,.i 4]),m l0,u (.ex l0 0),u (.ex l1 1),u (.st v1 l1 9 []),w 7 (.mv l1)] []) (.seq (.reg [h 9 v1,u (.ca N.ag 0 [] [.l 0,.i 0,.i 0,.i 0]),m l0,u (.ex l0 0),u (.ex l1 1),u (.ex l2 2),u (.al [.nil,.nil,.t (.int .i64 (0)),.nil,.nil,.nil,.nil,.nil,.nil] []),w 8 (.al [.t (.int .i64 (0)),.t (.int .i64 (0)),.t (.int .i64 (0)),.nil] []),u (.st l1 l4 9 []),u (.st l1 l4 4 []),w 9 (.mv l4)] []) (.seq (.reg [m v2,u (.bin .eql l0 (.i 0)),m l0,y 0 true (.mv v3),y 1 true (.bin .eql l0 (.i 0)),u (.pk l2 l0 (.b false)),m l0,y 0 true (.mv v4),y 1 true (.bin .eql l0 (.i 0)),u (.pk l2 l0 (.b false)),m l0,y 0 true (.mv v6),y 1 true (.bin .eql l0 (.i 0)),u (.pk l2 l0 (.b false)),m l0,y 0 true (.mv v7),y 1 true (.bin .eql l0 (.i 0)),u (.pk l2 l0 (.b false)),m l0,y 0 true (.mv v9),y 1 true (.bin .eql l0 (.i 0)),u (.pk l2 l0 (.b false)),m l0,y 0 true (.fa v1 3),y 1 true (.ld l0 1 false),y 2 true (.ln l0),y 3 true (.bin .eql l0 (.i 1)),u (.pk l4 l0 (.b false)),m l0,y 0 true (.fa v1 3),y 1 true (.ld l0 1 false),y 2 true (.ia l0 (.i 0) 3),y 3 true (.fa l0 0),y 4 true (.ld l0 1 false),y 5 true (.bin .eql l0 (.i 1)),u (.pk l6 l0 (.b false)),m l0,y 0 true (.fa v1 3),y 1 true (.ld l0 1 false),y 2 true (.ia l0 (.i 0) 3),y 3 true (.fa l0 1),y 4 true (.ld l0 1 false),y 5 true (.bin .eql l0 (.i (-1))),u (.pk l6 l0 (.b false)),m l0,y 0 true (.fa v5 3),y 1 true (.ld l0 1 false),y 2 true (.ln l0),y 3 true (.bin .eql l0 (.i 0)),u (.pk l4 l0 (.b false)),m l0,y 0 true (.fa v8 3),y 1 true (.ld l0 1 false),y 2 true (.ln l0),y 3 true (.bin .eql l0 (.i 1)),u (.pk l4 l0 (.b false)),m l0,y 0 true (.fa v8 3),y 1 true (.ld l0 1 false),y 2 true (.ia l0 (.i 0) 1),y 3 true (.ld l0 1 false),y 4 true (.bin .eql l0 (.i 9)),u (.pk l5 l0 (.b false)),m l0,y 0 true (.fa v8 2),y 1 true (.ld l0 1 false),y 2 true (.bin .eql l0 (.i 10)),u (.pk l3 l0 (.b false)),w 0 (.mv l0)] []) .ret)))))))),res:=[(0,none)]}
def cq:C:=(.seq (.ite [m v5,u (.bin .gtr l0 (.i 0))] [] 0 .skip (.exit 0)) (.seq (.blk 1 (.seq (.reg [m v0,f 0 v2,g l0,u (.ln l0),u (.ca N.cF 0 [] [.l 3,.l 0]),m v0,u (.bs [.i 9,.i 29,.i 4] 1),u (.ca N.bn 0 [] [.l 1,.l 0]),u (.bin .add (.i 1) l0),m v0,u (.ca N.aF 0 [] [.l 0,.i 3]),m v0,u (.bs [.i 0,.i 1,.i 5] 1),u (.ca N.bn 0 [] [.l 1,.l 0]),u (.bd [.nil,.t (.int .i64 (0)),.t (.int .i64 (0)),.t (.int .i64 (0))] [(0,1,.l 9),(1,1,.l 5),(2,1,.l 3),(3,1,.l 0)]),w 6 (.al [.nil,.t (.int .i64 (0)),.t (.int .i64 (0)),.t (.int .i64 (0))] []),u (.st l0 l1 4 [])] []) (.seq (.ite [f 0 v6,g l0,u (.ln l0),u (.bin .eql l0 (.i 0))] [] 0 (.reg [m v0,f 0 v2,g l0,u (.ln l0),u (.ca N.aF 0 [] [.l 3,.l 0]),u (.bs [.l 0] 1),f 0 v6,u (.st l0 l1 1 [])] []) .skip) (.reg [m v4,h 4 v6,u (.bs [.l 0] 4),u (.app l2 l0 true 4),w 4 (.mv l0)] [])))) (.reg [m v5,u (.bin .sub l0 (.i 1)),w 5 (.mv l0)] [])))
def i6:C:= .loop true [1,3,6] K.cq
def bE:Fn:={ nargs:=2,vars:=[0,1,3,4,5,6,7],body:=(.seq (.reg [w 2 (.bx v1 2),w 3 (.mv (.c (.nil)))] []) (.seq (.reg [w 4 (.nw 4)] []) (.seq (.seq (.reg [m v0,u (.ca N.aF 0 [] [.l 0,.i 4]),w 5 (.mv l0)] []) (.blk 0 K.i6)) (.seq (.reg [m v4,w 3 (.mv l0)] []) .ret)))),res:=[(3,none)]}
def si:C:=(.its [u (.bin .lss v13 v12)] [] 0 .skip (.exit 1) (.seq (.blk 2 (.seq (.reg [a 1 v11 v13,g l0,w 10 (.mv l0)] []) (.reg [f 3 v9,g l0,m v10,u (.bd [.t (.int .i64 (0)),.t (.int .i64 (0)),.t (.int .i64 (0))] [(0,1,.l 0),(1,1,.i (-1))]),u (.bs [.l 0] 3),u (.app l3 l0 true 3),f 3 v9,u (.st l0 l1 1 [])] []))) (.reg [u (.bin .add v13 (.i 1)),w 13 (.mv l0)] [])))
def sR:C:= .loop true [0,2,3,4,5,7,10,14,15] K.si
def sj:C:=(.its [u (.bin .lss v15 v14)] [] 0 .skip (.exit 3) (.seq (.blk 4 (.reg [f 6 v9,g l0,u (.bs [.i (-1)] 1),u (.app l1 l0 true 1),f 7 v9,g l0,u (.bs [.i (-1)] 1),u (.app l1 l0 true 1),f 8 v9,g l0,m v8,u (.mkt l0 (.int .i64 (0)) 1),u (.bs [.l 0] 1),u (.app l3 l0 true 1),f 6 v9,u (.st l0 l11 1 []),f 7 v9,u (.st l0 l9 1 []),f 8 v9,u (.st l0 l5 1 [])] [(2,2),(5,0),(6,0),(9,0),(9,4),(11,0),(11,4),(12,0),(12,4)])) (.reg [u (.bin .add v15 (.i 1)),w 15 (.mv l0)] [])))
def sT:C:= .loop true [0,1,2,3,4,5,7,10,11,12,13] K.sj
def gr:Fn:={ nargs:=5,vars:=[0,1,2,3,4,5,10,11,12,13,15,55,56,57,70,71],body:=(.seq (.reg [w 5 (.bx v0 2),w 6 (.al [.nil,.nil,.t (.int .i64 (0)),.nil,.nil,.nil,.nil,.nil,.nil] []),w 7 (.mv (.i 0))] []) (.seq (.reg [m v2,u (.ln l0),w 8 (.mv l0)] []) (.seq (.blk 0 (.ite [h 2 v5,m v1,u (.ca N.bY 0 [] [.l 1,.l 0]),u (.un .not l0),m l0,y 0 false (.mv v3),y 1 false (.ln l0),y 2 false (.mv v8),y 3 false (.bin .neq l1 l0),u (.pk l4 (.b true) l0),m l0,y 0 false (.mv v8),y 1 false (.ca N.b6 0 [] [.l 0,.i 1,.i 12]),y 2 false (.un .not l0),u (.pk l3 (.b true) l0),m l0] [] 0 (.seq (.reg [u (.bd [.nil,.nil,.t (.int .i64 (0)),.nil,.nil,.nil,.nil,.nil,.nil] []),u (.st v6 l0 9 []),w 7 (.mv (.i 6))] []) .ret) (.ite [m v2,u (.mf N.eF [.v 5]),u (.ca N.aO 0 [] [.l 1,.l 0]),m l0] [] 0 (.seq (.reg [u (.bd [.nil,.nil,.t (.int .i64 (0)),.nil,.nil,.nil,.nil,.nil,.nil] []),u (.st v6 l0 9 []),w 7 (.mv (.i 3))] []) .ret) (.ite [m v3,u (.ca N.dt 0 [] [.l 0]),u (.un .not l0),m l0] [] 0 (.seq (.reg [u (.bd [.nil,.nil,.t (.int .i64 (0)),.nil,.nil,.nil,.nil,.nil,.nil] []),u (.st v6 l0 9 []),w 7 (.mv (.i 41))] []) .ret) (.ite [m v4,u (.ca N.b6 0 [] [.l 0,.i 0,.i 2147483648]),u (.un .not l0),m l0] [] 0 (.seq (.reg [u (.bd [.nil,.nil,.t (.int .i64 (0)),.nil,.nil,.nil,.nil,.nil,.nil] []),u (.st v6 l0 9 []),w 7 (.mv (.i 8))] []) .ret) .skip))))) (.seq (.reg [h 2 v5,m v4,m v3,m v1,u (.bd [.nil,.nil,.t (.int .i64 (0)),.nil,.nil,.nil,.nil,.nil,.nil] [(0,2,.l 3),(2,1,.l 2),(4,1,.l 1),(5,1,.l 0)]),w 9 (.al [.nil,.nil,.t (.int .i64 (0)),.nil,.nil,.nil,.nil,.nil,.nil] [(3,3),(6,1),(7,1),(8,1)]),u (.st l0 l1 9 [(3,3),(6,1),(7,1),(8,1)])] []) (.seq (.seq (.reg [w 11 (.mv v2),w 12 (.ln l0),w 13 (.mv (.i 0))] []) (.blk 1 K.sR)) (.seq (.seq (.reg [m v1,w 14 (.ln l0),w 15 (.mv (.i 0))] []) (.blk 3 K.sT)) (.seq (.reg [h 9 v9,u (.ca N.fj 0 [] [.l 0]),u (.st v6 l0 9 []),w 7 (.mv (.i 0))] []) .ret))))))),res:=[(6,some (9,true)),(7,none)]}
def ff:C:=(.seq (.ite [m v9,m v8,u (.bin .lss l1 l0)] [] 0 .skip (.exit 0)) (.seq (.blk 1 (.ite [m v2,m v9,a 1 l1 l0,g l0,u (.bin .lss l0 (.i 0)),m l0,y 0 false (.mv v2),y 1 false (.mv v9),y 2 false (.ia l1 l0 1),y 3 false (.ld l0 1 false),y 4 false (.fa v5 0),y 5 false (.ld l0 1 false),y 6 false (.ln l0),y 7 false (.bin .geq l3 l0),u (.pk l8 (.b true) l0)] [] 0 (.seq (.reg [u (.bd [.nil,.nil,.t (.int .i64 (0)),.nil,.nil,.nil,.nil,.nil,.nil] []),u (.st v6 l0 9 []),w 7 (.mv (.i 3))] []) .ret) .skip)) (.reg [m v9,u (.bin .add l0 (.i 1)),w 9 (.mv l0)] [])))
def mT:C:= .loop true [0,7,10,11,12] K.ff
def jr:C:=(.seq (.ite [m v11,m v8,u (.bin .lss l1 l0)] [] 0 .skip (.exit 2)) (.seq (.blk 3 (.reg [f 3 v10,g l0,m v2,m v11,a 1 l1 l0,g l0,u (.bd [.t (.int .i64 (0)),.t (.int .i64 (0)),.t (.int .i64 (0))] [(0,1,.l 0),(1,1,.i (-1))]),u (.bs [.l 0] 3),u (.app l6 l0 true 3),f 3 v10,u (.st l0 l1 1 [])] [(1,8)])) (.reg [m v11,u (.bin .add l0 (.i 1)),w 11 (.mv l0)] [])))
def mU:C:= .loop true [0,3,4,5,7,9,12] K.jr
def jt:C:=(.seq (.ite [m v12,m v1,u (.ln l0),u (.bin .lss l2 l0)] [] 0 .skip (.exit 4)) (.seq (.blk 5 (.reg [f 6 v10,g l0,u (.bs [.i (-1)] 1),u (.app l1 l0 true 1),f 7 v10,g l0,u (.bs [.i (-1)] 1),u (.app l1 l0 true 1),f 8 v10,g l0,m v8,u (.mkt l0 (.int .i64 (0)) 1),u (.bs [.l 0] 1),u (.app l3 l0 true 1),f 6 v10,u (.st l0 l11 1 []),f 7 v10,u (.st l0 l9 1 []),f 8 v10,u (.st l0 l5 1 [])] [(2,2),(5,0),(6,0),(9,0),(9,4),(11,0),(11,4),(12,0),(12,4)])) (.reg [m v12,u (.bin .add l0 (.i 1)),w 12 (.mv l0)] [])))
def mV:C:= .loop true [0,2,3,4,5,7,9,11] K.jt
def b5:Fn:={ nargs:=5,vars:=[0,1,2,3,4,5,10,11,12,13,14,15,16],body:=(.seq (.reg [w 5 (.bx v0 2),w 6 (.al [.nil,.nil,.t (.int .i64 (0)),.nil,.nil,.nil,.nil,.nil,.nil] []),w 7 (.mv (.i 0))] []) (.seq (.reg [m v2,u (.ln l0),w 8 (.mv l0)] []) (.seq (.ite [h 2 v5,m v1,u (.ca N.dj 0 [] [.l 1,.l 0]),u (.un .not l0),m l0,y 0 false (.mv v8),y 1 false (.bin .lss l0 (.i 1)),u (.pk l2 (.b true) l0),m l0,y 0 false (.mv v8),y 1 false (.bin .gtr l0 (.i 12)),u (.pk l2 (.b true) l0),m l0,y 0 false (.mv v3),y 1 false (.ln l0),y 2 false (.mv v8),y 3 false (.bin .neq l1 l0),u (.pk l4 (.b true) l0)] [] 0 (.seq (.reg [u (.bd [.nil,.nil,.t (.int .i64 (0)),.nil,.nil,.nil,.nil,.nil,.nil] []),u (.st v6 l0 9 []),w 7 (.mv (.i 6))] []) .ret) .skip) (.seq (.seq (.reg [w 9 (.mv (.i 0))] []) (.blk 0 K.mT)) (.seq (.ite [m v3,u (.ca N.cy 0 [] [.l 0]),u (.un .not l0)] [] 0 (.seq (.reg [u (.bd [.nil,.nil,.t (.int .i64 (0)),.nil,.nil,.nil,.nil,.nil,.nil] []),u (.st v6 l0 9 []),w 7 (.mv (.i 41))] []) .ret) .skip) (.seq (.ite [m v4,u (.bin .lss l0 (.i 0)),m l0,y 0 false (.mv v4),y 1 false (.bin .gtr l0 (.i 2147483648)),u (.pk l2 (.b true) l0)] [] 0 (.seq (.reg [u (.bd [.nil,.nil,.t (.int .i64 (0)),.nil,.nil,.nil,.nil,.nil,.nil] []),u (.st v6 l0 9 []),w 7 (.mv (.i 8))] []) .ret) .skip) (.seq (.reg [h 2 v5,m v4,m v3,m v1,u (.bd [.nil,.nil,.t (.int .i64 (0)),.nil,.nil,.nil,.nil,.nil,.nil] [(0,2,.l 3),(2,1,.l 2),(4,1,.l 1),(5,1,.l 0)]),w 10 (.al [.nil,.nil,.t (.int .i64 (0)),.nil,.nil,.nil,.nil,.nil,.nil] [(3,3),(6,1),(7,1),(8,1)]),u (.st l0 l1 9 [(3,3),(6,1),(7,1),(8,1)])] []) (.seq (.seq (.reg [w 11 (.mv (.i 0))] []) (.blk 2 K.mU)) (.seq (.seq (.reg [w 12 (.mv (.i 0))] []) (.blk 4 K.mV)) (.seq (.reg [h 9 v10,u (.ca N.de 0 [] [.l 0]),u (.st v6 l0 9 []),w 7 (.mv (.i 0))] []) .ret)))))))))),res:=[(6,some (9,true)),(7,none)]}
def gu:Fn:={ nargs:=4,vars:=[0,1,2,3,4,8,9,10,11,12,13],body:=(.seq (.reg [w 4 (.bx v0 9),w 5 (.al [.nil,.nil,.t (.int .i64 (0)),.nil,.nil,.nil,.nil,.nil,.nil] []),w 6 (.mv (.i 0))] []) (.seq (.seq (.reg [h 9 v4,m v1,u (.bs [.l 0] 1),u (.ca N.eG 0 [] [.l 2,.l 0]),w 7 (.mv l0)] []) (.ite [m v7,u (.bin .neq l0 (.i 0))] [] 0 (.seq (.reg [h 9 v4,m v7,u (.st v5 l1 9 []),w 6 (.mv l1)] []) .ret) .skip)) (.seq (.reg [f 3 v4,g l0,m v1,a 3 l1 l0,h 3 l0,w 8 (.al [.t (.int .i64 (0)),.t (.int .i64 (0)),.t (.int .i64 (0))] []),u (.st l0 l1 3 [])] []) (.seq (.reg [f 0 v4,h 2 l0,m v2,f 0 v8,g l0,u (.ca N.cg 0 [] [.l 3,.l 2,.l 0]),w 9 (.mv l0)] []) (.seq (.blk 0 (.ite [f 1 v8,g l0,u (.bin .geq l0 (.i 0)),m l0] [] 0 (.seq (.reg [h 9 v4,u (.st v5 l0 9 []),w 6 (.mv (.i 10))] []) .ret) (.ite [m v9,u (.bin .lss l0 (.i 0)),m l0] [] 0 (.seq (.reg [h 9 v4,u (.st v5 l0 9 []),w 6 (.mv (.i 4))] []) .ret) (.ite [m v3,u (.ca N.b6 0 [] [.l 0,.i 0,.i 3600]),u (.un .not l0),m l0] [] 0 (.seq (.reg [h 9 v4,u (.st v5 l0 9 []),w 6 (.mv (.i 1))] []) .ret) .skip)))) (.seq (.reg [h 9 v4,u (.ca N.ch 1 [] [.l 0]),w 10 (.al [.nil,.nil,.t (.int .i64 (0)),.nil,.nil,.nil,.nil,.nil,.nil] []),u (.st l0 l1 9 [])] []) (.seq (.reg [f 3 v10,g l0,m v1,f 3 v10,g l0,m v1,m v2,m v9,m v3,u (.bin .add l1 l0),a 3 l8 l7,f 1 l0,u (.st l0 l5 1 []),a 3 l8 l7,f 2 l0,u (.st l0 l5 1 [])] [(4,13)]) (.seq (.reg [h 9 v10,u (.st v5 l0 9 []),w 6 (.mv (.i 0))] []) .ret)))))))),res:=[(5,some (9,true)),(6,none)]}
def gH:C:=(.its [u (.bin .lss v10 v9)] [] 0 .skip (.exit 1) (.seq (.blk 2 (.seq (.reg [m v10,a 3 v8 v10,h 3 l0,w 7 (.al [.t (.int .i64 (0)),.t (.int .i64 (0)),.t (.int .i64 (0))] []),w 6 (.mv l3),u (.st l1 l2 3 [])] []) (.seq (.ite [f 1 v7,g l0,u (.bin .lss l0 (.i 0))] [] 0 (.exit 2) .skip) (.seq (.seq (.reg [f 2 v7,g l0,m v1,u (.bin .sub l1 l0),f 2 v7,u (.st l0 l1 1 [])] []) (.ite [f 2 v7,g l0,u (.bin .leq l0 (.i 0))] [] 0 (.reg [f 0 v2,h 2 l0,f 1 v7,g l0,f 0 v7,g l0,u (.ca N.fe 0 [] [.l 4,.l 2,.l 0]),u (.bd [.t (.int .i64 (0)),.t (.int .i64 (0)),.t (.int .i64 (0))] [(0,1,.l 0),(1,1,.i (-1))]),u (.st v7 l0 3 [])] []) .skip)) (.reg [f 3 v5,g l0,m v6,h 3 v7,a 3 l2 l1,u (.st l0 l1 3 [])] []))))) (.reg [u (.bin .add v10 (.i 1)),w 10 (.mv l0)] [])))
def oO:C:= .loop true [0,4,6,7] K.gH
def dy:Fn:={ nargs:=2,vars:=[0,1,2,4,5,6,7,8,34,35,36],body:=(.seq (.reg [w 2 (.bx v0 9),w 3 (.al [.nil,.nil,.t (.int .i64 (0)),.nil,.nil,.nil,.nil,.nil,.nil] []),w 4 (.mv (.i 0))] []) (.seq (.blk 0 (.ite [h 9 v2,u (.ca N.dD 0 [] [.l 0]),u (.un .not l0),m l0] [] 0 (.seq (.reg [h 9 v2,u (.st v3 l0 9 []),w 4 (.mv (.i 6))] []) .ret) (.ite [m v1,u (.ca N.b6 0 [] [.l 0,.i 0,.i 3600]),u (.un .not l0),m l0] [] 0 (.seq (.reg [h 9 v2,u (.st v3 l0 9 []),w 4 (.mv (.i 1))] []) .ret) (.ite [f 2 v2,g l0,m v1,u (.bin .add l1 l0),u (.bin .gtr l0 (.i 2147483648)),m l0] [] 0 (.seq (.reg [h 9 v2,u (.st v3 l0 9 []),w 4 (.mv (.i 8))] []) .ret) .skip)))) (.seq (.reg [h 9 v2,u (.ca N.ch 1 [] [.l 0]),w 5 (.al [.nil,.nil,.t (.int .i64 (0)),.nil,.nil,.nil,.nil,.nil,.nil] []),u (.st l0 l1 9 [])] []) (.seq (.reg [f 2 v5,g l0,m v1,u (.bin .add l1 l0),f 2 v5,u (.st l0 l1 1 [])] []) (.seq (.seq (.reg [f 3 v5,w 8 (.ld l0 1 false),w 9 (.ln l0),w 10 (.mv (.i 0))] []) (.blk 1 K.oO)) (.seq (.reg [h 9 v5,u (.st v3 l0 9 []),w 4 (.mv (.i 0))] []) .ret)))))),res:=[(3,some (9,true)),(4,none)]}
def aa:C:=(.its [u (.bin .lss v20 v19)] [] 0 .skip (.exit 1) (.seq (.blk 2 (.seq (.reg [m v20,a 3 v18 v20,h 3 l0,w 14 (.al [.t (.int .i64 (0)),.t (.int .i64 (0)),.t (.int .i64 (0))] []),w 13 (.mv l3),u (.st l1 l2 3 [])] []) (.seq (.reg [f 0 v8,g l0,f 0 v14,g l0,u (.ca N.aZ 0 [] [.l 2,.l 0]),m v2,m v13,u (.bin .shr l1 l0),u (.bin .and l0 (.i 1)),u (.bin .eql l0 (.i 1)),w 15 (.mv l5),w 16 (.mv l1)] []) (.seq (.reg [f 8 v9,g l0,m v1,a 1 l1 l0,g l0,m v13,a 1 l1 l0,w 17 (.mv l0)] []) (.blk 3 (.ite [m v15,m l0,y 0 true (.mv v16),u (.pk l1 l0 (.b false)),m l0] [] 0 (.seq (.reg [m v17,u (.nc l0),g l0,u (.bin .add l0 (.i 1)),u (.nc l3),u (.st l0 l1 1 [])] []) (.ite [m v17,u (.nc l0),g l0,f 2 v8,g l0,u (.bin .gtr l2 l0)] [] 0 (.seq (.reg [h 9 v4,u (.bd [.t (.int .i64 (0)),.t (.int .i64 (0)),.t (.int .i64 (0)),.nil] []),u (.st v5 l1 9 []),u (.st v6 l1 4 []),w 7 (.mv (.i 43))] []) .ret) .skip)) (.seq (.reg [m v17,u (.nc l0),u (.st l0 (.i 0) 1 [])] []) (.ite [m v15] [] 0 (.reg [f 3 v12,g l0,f 4 v4,g l0,m v13,a 1 l1 l0,g l0,u (.bs [.l 0] 1),u (.app l6 l0 true 1),f 3 v12,u (.st l0 l1 1 [])] [(1,8)]) .skip)))))))) (.reg [u (.bin .add v20 (.i 1)),w 20 (.mv l0)] [])))
def fx:C:= .loop false [0,3,7,10,11,13,14,15,16,17] K.aa
def ag:Fn:={ nargs:=4,vars:=[0,1,2,3,4,8,9,10,11,12,13,14,15,16,17,18,19,20,108,109,110],body:=(.seq (.reg [w 4 (.bx v0 9),w 5 (.al [.nil,.nil,.t (.int .i64 (0)),.nil,.nil,.nil,.nil,.nil,.nil] []),w 6 (.al [.t (.int .i64 (0)),.t (.int .i64 (0)),.t (.int .i64 (0)),.nil] []),w 7 (.mv (.i 0))] []) (.seq (.blk 0 (.ite [h 9 v4,u (.ca N.dD 0 [] [.l 0]),u (.un .not l0),m l0] [] 0 (.seq (.reg [h 9 v4,u (.bd [.t (.int .i64 (0)),.t (.int .i64 (0)),.t (.int .i64 (0)),.nil] []),u (.st v5 l1 9 []),u (.st v6 l1 4 []),w 7 (.mv (.i 6))] []) .ret) (.ite [m v1,f 5 v4,g l0,u (.ln l0),u (.bin .sub l0 (.i 1)),u (.ca N.b6 0 [] [.l 4,.i 0,.l 0]),u (.un .not l0),m l0] [] 0 (.seq (.reg [h 9 v4,u (.bd [.t (.int .i64 (0)),.t (.int .i64 (0)),.t (.int .i64 (0)),.nil] []),u (.st v5 l1 9 []),u (.st v6 l1 4 []),w 7 (.mv (.i 40))] []) .ret) .skip))) (.seq (.reg [f 5 v4,g l0,m v1,a 4 l1 l0,h 4 l0,w 8 (.al [.nil,.t (.int .i64 (0)),.t (.int .i64 (0)),.t (.int .i64 (0))] []),u (.st l0 l1 4 [])] []) (.seq (.ite [m v3,f 3 v8,g l0,u (.un .neg l0),f 3 v8,g l0,u (.ca N.b6 0 [] [.l 5,.l 2,.l 0]),u (.un .not l0),m l0,y 0 false (.fa v4 2),y 1 false (.ld l0 1 false),y 2 false (.mv v3),y 3 false (.bin .add l1 l0),y 4 false (.ca N.b6 0 [] [.l 0,.i 0,.i 2147483648]),y 5 false (.un .not l0),u (.pk l6 (.b true) l0)] [] 0 (.seq (.reg [h 9 v4,u (.bd [.t (.int .i64 (0)),.t (.int .i64 (0)),.t (.int .i64 (0)),.nil] []),u (.st v5 l1 9 []),u (.st v6 l1 4 []),w 7 (.mv (.i 1))] []) .ret) .skip) (.seq (.reg [h 9 v4,u (.ca N.aX 2 [] [.l 0]),w 9 (.al [.nil,.nil,.t (.int .i64 (0)),.nil,.nil,.nil,.nil,.nil,.nil] []),u (.st l0 l1 9 [])] []) (.seq (.reg [w 10 (.mv (.i 1))] []) (.seq (.ite [f 7 v4,g l0,m v1,a 1 l1 l0,g l0,u (.bin .geq l0 (.i 0)),m l0,y 0 true (.fa v4 2),y 1 true (.ld l0 1 false),y 2 true (.fa v4 7),y 3 true (.ld l0 1 false),y 4 true (.mv v1),y 5 true (.ia l1 l0 1),y 6 true (.ld l0 1 false),y 7 true (.bin .sub l5 l0),y 8 true (.fa v8 1),y 9 true (.ld l0 1 false),y 10 true (.bin .gtr l2 l0),u (.pk l11 l0 (.b false))] [] 0 (.reg [w 10 (.mv (.i 2))] []) .skip) (.seq (.reg [f 6 v4,g l0,m v1,a 1 l1 l0,g l0,m v10,u (.bin .add l1 l0),u (.bin .rem l0 (.i 65536)),w 11 (.mv l0)] []) (.seq (.reg [f 6 v9,g l0,m v1,f 7 v9,g l0,m v1,m v11,f 2 v4,g l0,a 1 l7 l6,u (.st l0 l3 1 []),a 1 l6 l5,u (.st l0 l3 1 [])] [(4,11),(8,11)]) (.seq (.reg [m v1,m v11,f 2 v4,g l0,m v3,u (.bin .add l1 l0),u (.bd [.t (.int .i64 (0)),.t (.int .i64 (0)),.t (.int .i64 (0)),.nil] [(0,1,.l 5),(1,1,.l 4),(2,1,.l 0)]),w 12 (.al [.t (.int .i64 (0)),.t (.int .i64 (0)),.t (.int .i64 (0)),.nil] [(3,1)]),u (.st l0 l1 4 [(3,1)])] []) (.seq (.seq (.reg [f 3 v4,w 18 (.ld l0 1 false),w 19 (.ln l0),w 20 (.mv (.i 0))] []) (.blk 1 K.fx)) (.seq (.reg [f 3 v12,g l0,u (.ca N.bA 0 [0] [.l 0])] []) (.seq (.reg [h 9 v9,h 4 v12,u (.st v5 l1 9 []),u (.st v6 l1 4 []),w 7 (.mv (.i 0))] [(1,3)]) .ret))))))))))))),res:=[(5,some (9,true)),(6,some (4,true)),(7,none)]}
end Go.Ev.K
namespace Go.Ev
class fH [Lib]:Prop where
 im:Lib.fs N.bK=some K.bK
 oP:Lib.fs N.dT=some K.dT
 fy:Lib.fs N.bE=some K.bE
 oQ:Lib.fs N.gr=some K.gr
 kK:Lib.fs N.b5=some K.b5
 oR:Lib.fs N.gu=some K.gu
 lV:Lib.fs N.dy=some K.dy
 fk:Lib.fs N.ag=some K.ag
namespace K
variable [Lib] [fH]
theorem im:Lib.fs N.bK=some K.bK:=fH.im
theorem oP:Lib.fs N.dT=some K.dT:=fH.oP
theorem fy:Lib.fs N.bE=some K.bE:=fH.fy
theorem oQ:Lib.fs N.gr=some K.gr:=fH.oQ
theorem kK:Lib.fs N.b5=some K.b5:=fH.kK
theorem oR:Lib.fs N.gu=some K.gu:=fH.oR
theorem lV:Lib.fs N.dy=some K.dy:=fH.lV
theorem fk:Lib.fs N.ag=some K.ag:=fH.fk
end K
end Go.Ev
namespace Go.Ev.K
open Go.Ev
def jW:C:=(.seq (.ite [m v6,u (.bin .gtr l0 (.i 0))] [] 0 .skip (.exit 0)) (.seq (.blk 1 (.reg [m v4,m v0,f 0 v3,g l0,u (.ln l0),u (.ca N.aF 0 [] [.l 3,.l 0]),u (.bs [.l 0] 1),u (.app l6 l0 true 1),m v5,m v6,u (.bin .mul (.i 3) l0),u (.bin .sub (.i 20) l0),u (.bs [.l 0] 1),u (.app l4 l0 true 1),w 4 (.mv l6),w 5 (.mv l1)] [])) (.reg [m v6,u (.bin .sub l0 (.i 1)),w 6 (.mv l0)] [])))
def oS:C:= .loop true [7,8,9,10,11] K.jW
def cG:C:=(.seq (.ite [m v8,u (.bin .gtr l0 (.i 0))] [] 0 .skip (.exit 2)) (.seq (.blk 3 (.seq (.reg [m v0,w 9 (.ca N.aF 0 [] [.l 0,.i 7])] []) (.blk 4 (.seq (.seq (.reg [u (.bin .eql v9 (.i 0)),w 10 (.mv l0)] []) (.itv 10 .skip (.reg [u (.bin .eql v9 (.i 1)),w 10 (.mv l0)] []))) (.itv 10 (.reg [h 9 v7,m v0,m v4,u (.ln l0),u (.ca N.aF 0 [] [.l 2,.l 0]),m v0,f 1 v3,g l0,u (.ln l0),u (.ca N.aF 0 [] [.l 3,.l 0]),m v0,u (.bs [.i 0,.i 0,.i 30] 1),u (.ca N.bn 0 [] [.l 1,.l 0]),u (.ca N.cP 0 [] [.l 12,.l 8,.l 3,.l 0]),m l0,u (.ex l0 0),u (.ex l1 1),u (.st v7 l1 9 [])] [(0,5),(0,10),(0,13),(7,0),(11,0),(11,5)]) (.ite [u (.bin .eql v9 (.i 2)),m l0] [] 0 (.reg [h 9 v7,m v0,m v4,u (.ln l0),u (.ca N.aF 0 [] [.l 2,.l 0]),u (.ca N.ez 0 [] [.l 4,.l 0]),m l0,u (.ex l0 0),u (.ex l1 1),u (.st v7 l1 9 [])] [(0,5)]) (.seq (.seq (.reg [u (.bin .eql v9 (.i 3)),w 11 (.mv l0)] []) (.itv 11 .skip (.reg [u (.bin .eql v9 (.i 4)),w 11 (.mv l0)] []))) (.itv 11 (.reg [h 9 v7,m v0,u (.bs [.i 5,.i 10,.i 1,.i 100,.i 0] 1),u (.ca N.bn 0 [] [.l 1,.l 0]),u (.ca N.dM 0 [] [.l 3,.l 0]),m l0,u (.ex l0 0),u (.ex l1 1),u (.st v7 l1 9 [])] [(0,3),(0,4)]) (.ite [u (.bin .eql v9 (.i 5)),m l0] [] 0 (.reg [h 9 v7,m v0,u (.ca N.aF 0 [] [.l 0,.i 3]),m v0,u (.bs [.i 0,.i 0,.i 1,.i 2] 1),u (.ca N.bn 0 [] [.l 1,.l 0]),m v0,u (.bs [.i 0,.i 0,.i 1,.i (-1)] 1),u (.ca N.bn 0 [] [.l 1,.l 0]),u (.ca N.ah 0 [] [.l 8,.l 6,.l 3,.l 0]),m l0,u (.ex l0 0),u (.ex l1 1),u (.ex l2 2),u (.st v7 l2 9 [])] [(0,3),(0,6),(0,9),(4,0),(7,0),(7,3)]) (.reg [h 9 v7,m v0,m v4,u (.ln l0),u (.ca N.aF 0 [] [.l 2,.l 0]),m v0,m v4,u (.ln l0),u (.ca N.aF 0 [] [.l 2,.l 0]),u (.ca N.aU 0 [] [.l 8,.l 4,.l 0]),m l0,u (.ex l0 0),u (.ex l1 1),u (.st v7 l1 9 [])] [(0,5),(0,9)])))))))))) (.reg [m v8,u (.bin .sub l0 (.i 1)),w 8 (.mv l0)] [])))
def oT:C:= .loop true [1,5,6,9,10,11] K.cG
def fQ:Fn:={ nargs:=2,vars:=[0,1,4,5,6,7,8,9,11,56,70,101],body:=(.seq (.reg [w 2 (.al [.nil,.nil,.t (.int .i64 (0)),.nil,.nil,.nil,.nil,.nil,.nil] [])] []) (.seq (.reg [m v0,u (.ca N.cr 0 [] [.l 0]),w 3 (.al [.nil,.nil] []),u (.st l0 l1 2 [])] []) (.seq (.reg [w 4 (.nw 1),w 5 (.nw 1)] []) (.seq (.seq (.reg [m v0,u (.ca N.aF 0 [] [.l 0,.i 3]),u (.bin .add (.i 1) l0),w 6 (.mv l0)] []) (.blk 0 K.oS)) (.seq (.reg [w 7 (.al [.nil,.nil,.t (.int .i64 (0)),.nil,.nil,.nil,.nil,.nil,.nil] []),h 2 v3,m v0,h 2 v3,u (.ca N.bE 0 [] [.l 1,.l 0]),m v4,m v5,m v0,u (.bs [.i 0,.i 100] 1),u (.ca N.bn 0 [] [.l 1,.l 0]),u (.ca N.b5 0 [] [.l 8,.l 5,.l 4,.l 3,.l 0]),m l0,u (.ex l0 0),u (.ex l1 1),u (.st (.l 13) l1 9 []),m l1] [(0,5),(0,10),(0,11),(1,5),(1,10),(8,1)]) (.seq (.seq (.reg [m v0,m v1,u (.ca N.aF 0 [] [.l 1,.l 0]),w 8 (.mv l0)] []) (.blk 2 K.oT)) (.seq (.reg [h 9 v7,u (.st v2 l0 9 [])] []) .ret))))))),res:=[(2,some (9,true))]}
def gV:Fn:={ nargs:=0,vars:=[0],body:=(.seq (.reg [w 0 (.al [.nil,.nil] [])] []) (.seq (.reg [u (.bd [.t (.int .i64 (0)),.t (.bool false)] [(1,1,.b true)]),u (.bd [.t (.int .i64 (0)),.t (.bool false)] []),u (.bs [.l 1,.l 0] 2),u (.bd [.t (.int .i64 (0)),.t (.int .i64 (0))] [(0,1,.i 1),(1,1,.i 1)]),u (.bd [.t (.int .i64 (0)),.t (.int .i64 (0)),.t (.int .i64 (0)),.t (.int .i64 (0)),.t (.bool false),.t (.bool false),.t (.int .i64 (0)),.t (.int .i64 (0)),.t (.int .i64 (0)),.t (.int .i64 (0))] [(1,1,.i 1),(2,1,.i 12),(3,1,.i 1),(4,1,.b true),(6,2,.l 0)]),u (.bs [.l 0] 10),u (.bd [.nil,.nil] [(0,1,.l 3),(1,1,.l 0)]),u (.st v0 l0 2 [])] []) .ret)),res:=[(0,some (2,true))]}
def bY:Fn:={ nargs:=2,vars:=[0,1,2,4,5],body:=(.seq (.reg [w 2 (.bx v0 2),w 3 (.mv (.b false))] []) (.seq (.reg [u (.mf N.bu [.v 2]),w 4 (.mv l0)] []) (.seq (.reg [h 2 v2,u (.ca N.eY 0 [] [.l 0]),m l0,y 0 true (.mv v1),y 1 true (.ln l0),y 2 true (.bin .leq l0 (.i 32)),u (.pk l3 l0 (.b false)),m l0,y 0 true (.mv v1),y 1 true (.mv v4),y 2 true (.ca N.ao 0 [] [.l 1,.l 0]),y 3 true (.un .not l0),u (.pk l4 l0 (.b false)),w 3 (.mv l0)] []) .ret))),res:=[(3,none)]}
def eF:Fn:={ nargs:=2,vars:=[0,1,3],body:=(.seq (.reg [w 2 (.mv (.b false))] []) (.seq (.reg [m v0,f 0 v1,g l0,u (.ln l0),u (.bin .sub l0 (.i 1)),u (.ca N.b6 0 [] [.l 4,.i 0,.l 0]),u (.un .not l0),w 2 (.mv l0)] []) .ret)),res:=[(2,none)]}
def dt:Fn:={ nargs:=1,vars:=[0,2],body:=(.seq (.reg [w 1 (.mv (.b false))] []) (.seq (.reg [m v0,u (.ca N.bo 0 [] [.l 0]),u (.ca N.cC 0 [] [.l 0]),u (.ca N.dm 0 [] [.l 0,.i 1,.i 65535]),w 1 (.mv l0)] []) .ret)),res:=[(1,none)]}
def qs:C:=(.its [u (.bin .lss v8 v7)] [] 0 .skip (.exit 0) (.seq (.blk 1 (.seq (.reg [a 4 v6 v8,h 4 l0,w 4 (.al [.nil,.t (.int .i64 (0)),.t (.int .i64 (0)),.t (.int .i64 (0))] []),u (.st l0 l1 4 [])] []) (.seq (.reg [f 0 v4,g l0,u (.ca N.ay 0 [] [.l 0]),f 0 v4,u (.st l0 l1 1 [])] []) (.reg [f 5 v3,g l0,h 4 v4,u (.bs [.l 0] 4),u (.app l2 l0 true 4),f 5 v3,u (.st l0 l1 1 [])] [])))) (.reg [u (.bin .add v8 (.i 1)),w 8 (.mv l0)] [])))
def sk:C:= .loop true [0,4,5,9,10,11] K.qs
def qt:C:=(.its [u (.bin .lss v11 v10)] [] 0 .skip (.exit 2) (.seq (.blk 3 (.seq (.reg [a 1 v9 v11,g l0,w 5 (.mv l0)] []) (.reg [f 8 v3,g l0,m v5,u (.ca N.ay 0 [] [.l 0]),u (.bs [.l 0] 1),u (.app l3 l0 true 1),f 8 v3,u (.st l0 l1 1 [])] [(1,4),(1,5)]))) (.reg [u (.bin .add v11 (.i 1)),w 11 (.mv l0)] [])))
def sn:C:= .loop true [0,1,4,5,6,7,8] K.qt
def fj:Fn:={ nargs:=1,vars:=[0,1,2,3,5,7,29,30,31,56,57,58],body:=(.seq (.reg [w 1 (.bx v0 9),w 2 (.al [.nil,.nil,.t (.int .i64 (0)),.nil,.nil,.nil,.nil,.nil,.nil] [])] []) (.seq (.reg [h 9 v1,w 3 (.al [.nil,.nil,.t (.int .i64 (0)),.nil,.nil,.nil,.nil,.nil,.nil] [(5,4),(8,1)]),u (.st l0 l1 9 [])] []) (.seq (.reg [f 0 v1,f 0 l0,g l0,u (.ca N.aG 0 [] [.l 0]),f 0 v1,f 1 l0,g l0,u (.ca N.aJ 0 [] [.l 0]),u (.bd [.nil,.nil] [(0,1,.l 4),(1,1,.l 0)]),f 0 v3,u (.st l0 l1 2 [])] [(6,0)]) (.seq (.reg [f 3 v1,g l0,u (.ca N.aq 0 [] [.l 0]),f 4 v1,g l0,u (.ca N.ay 0 [] [.l 0]),f 3 v3,u (.st l0 l4 1 []),f 4 v3,u (.st l0 l3 1 [])] [(4,0)]) (.seq (.reg [f 5 v3,u (.st l0 (.c (.nil)) 1 [(5,4)])] []) (.seq (.seq (.reg [f 5 v1,w 6 (.ld l0 1 false),w 7 (.ln l0),w 8 (.mv (.i 0))] []) (.blk 0 K.sk)) (.seq (.reg [f 6 v1,g l0,u (.ca N.ay 0 [] [.l 0]),f 7 v1,g l0,u (.ca N.ay 0 [] [.l 0]),f 6 v3,u (.st l0 l4 1 []),f 7 v3,u (.st l0 l3 1 [])] [(4,0)]) (.seq (.reg [f 8 v3,u (.st l0 (.c (.nil)) 1 [(8,1)])] []) (.seq (.seq (.reg [f 8 v1,w 9 (.ld l0 1 false),w 10 (.ln l0),w 11 (.mv (.i 0))] []) (.blk 2 K.sn)) (.seq (.reg [h 9 v3,u (.st v2 l0 9 [])] []) .ret)))))))))),res:=[(2,some (9,true))]}
def bZ:C:=(.seq (.ite [m v4,m v1,u (.ln l0),u (.bin .lss l2 l0)] [] 0 .skip (.exit 0)) (.seq (.blk 1 (.seq (.reg [m v1,m v4,a 4 l1 l0,h 4 l0,w 5 (.al [.nil,.t (.int .i64 (0)),.t (.int .i64 (0)),.t (.int .i64 (0))] []),u (.st l0 l1 4 [])] []) (.ite [f 0 v5,g l0,u (.ln l0),u (.bin .eql l0 (.i 0)),m l0,y 0 false (.fa v5 0),y 1 false (.ld l0 1 false),y 2 false (.fa v2 0),y 3 false (.ld l0 1 false),y 4 false (.ln l0),y 5 false (.ca N.gE 0 [] [.l 3,.l 0]),y 6 false (.un .not l0),u (.pk l7 (.b true) l0),m l0,y 0 false (.fa v5 1),y 1 false (.ld l0 1 false),y 2 false (.bin .lss l0 (.i 1)),u (.pk l3 (.b true) l0),m l0,y 0 false (.fa v5 1),y 1 false (.ld l0 1 false),y 2 false (.bin .gtr l0 (.i 600)),u (.pk l3 (.b true) l0),m l0,y 0 false (.fa v5 2),y 1 false (.ld l0 1 false),y 2 false (.bin .lss l0 (.i 0)),u (.pk l3 (.b true) l0),m l0,y 0 false (.fa v5 2),y 1 false (.ld l0 1 false),y 2 false (.bin .gtr l0 (.i 10)),u (.pk l3 (.b true) l0),m l0,y 0 false (.fa v5 3),y 1 false (.ld l0 1 false),y 2 false (.bin .lss l0 (.i 0)),u (.pk l3 (.b true) l0),m l0,y 0 false (.fa v5 3),y 1 false (.ld l0 1 false),y 2 false (.bin .gtr l0 (.i 60)),u (.pk l3 (.b true) l0)] [] 0 (.seq (.reg [w 3 (.mv (.b false))] []) .ret) .skip))) (.reg [m v4,u (.bin .add l0 (.i 1)),w 4 (.mv l0)] [])))
def mW:C:= .loop true [0,3,5] K.bZ
def dj:Fn:={ nargs:=2,vars:=[0,1,2,4,5,6],body:=(.seq (.reg [w 2 (.bx v0 2),w 3 (.mv (.b false))] []) (.seq (.seq (.reg [w 4 (.mv (.i 0))] []) (.blk 0 K.mW)) (.seq (.reg [h 2 v2,u (.ca N.dQ 0 [] [.l 0]),u (.bin .eql l0 (.i 0)),m l0,y 0 true (.mv v1),y 1 true (.ln l0),y 2 true (.bin .leq l0 (.i 32)),u (.pk l3 l0 (.b false)),w 3 (.mv l0)] []) .ret))),res:=[(3,none)]}
def c8:C:=(.seq (.ite [m v2,m v0,u (.ln l0),u (.bin .lss l2 l0)] [] 0 .skip (.exit 0)) (.seq (.blk 1 (.ite [m v0,m v2,a 1 l1 l0,g l0,u (.bin .lss l0 (.i 1)),m l0,y 0 false (.mv v0),y 1 false (.mv v2),y 2 false (.ia l1 l0 1),y 3 false (.ld l0 1 false),y 4 false (.bin .gtr l0 (.i 65535)),u (.pk l5 (.b true) l0),m l0,y 0 false (.mv v0),y 1 false (.mv v2),y 2 false (.sc l1 none (some l0) 1),y 3 false (.mv v0),y 4 false (.mv v2),y 5 false (.ia l1 l0 1),y 6 false (.ld l0 1 false),y 7 false (.ca N.gj 0 [] [.l 4,.l 0]),u (.pk l8 (.b true) l0)] [] 0 (.seq (.reg [w 1 (.mv (.b false))] []) .ret) .skip)) (.reg [m v2,u (.bin .add l0 (.i 1)),w 2 (.mv l0)] [])))
def kj:C:= .loop true [1] K.c8
def cy:Fn:={ nargs:=1,vars:=[0,2,3],body:=(.seq (.reg [w 1 (.mv (.b false))] []) (.seq (.seq (.reg [w 2 (.mv (.i 0))] []) (.blk 0 K.kj)) (.seq (.reg [w 1 (.mv (.b true))] []) .ret))),res:=[(1,none)]}
def gI:C:=(.seq (.ite [m v4,f 5 v1,g l0,u (.ln l0),u (.bin .lss l3 l0)] [] 0 .skip (.exit 0)) (.seq (.blk 1 (.seq (.reg [f 5 v1,g l0,m v4,a 4 l1 l0,h 4 l0,w 5 (.al [.nil,.t (.int .i64 (0)),.t (.int .i64 (0)),.t (.int .i64 (0))] []),u (.st l0 l1 4 [])] []) (.seq (.reg [f 0 v5,g l0,u (.app (.c (.nil)) l0 true 1),f 0 v5,u (.st l0 l1 1 [])] []) (.reg [f 5 v3,g l0,h 4 v5,u (.bs [.l 0] 4),u (.app l2 l0 true 4),f 5 v3,u (.st l0 l1 1 [])] [])))) (.reg [m v4,u (.bin .add l0 (.i 1)),w 4 (.mv l0)] [])))
def kL:C:= .loop true [0,5,6] K.gI
def gJ:C:=(.seq (.ite [m v6,f 8 v1,g l0,u (.ln l0),u (.bin .lss l3 l0)] [] 0 .skip (.exit 2)) (.seq (.blk 3 (.reg [f 8 v3,g l0,f 8 v1,g l0,m v6,a 1 l1 l0,g l0,u (.app (.c (.nil)) l0 true 1),u (.bs [.l 0] 1),u (.app l7 l0 true 1),f 8 v3,u (.st l0 l1 1 [])] [(1,8),(1,9)])) (.reg [m v6,u (.bin .add l0 (.i 1)),w 6 (.mv l0)] [])))
def kM:C:= .loop true [0,4,5] K.gJ
def de:Fn:={ nargs:=1,vars:=[0,1,2,3,4,5,6],body:=(.seq (.reg [w 1 (.bx v0 9),w 2 (.al [.nil,.nil,.t (.int .i64 (0)),.nil,.nil,.nil,.nil,.nil,.nil] [])] []) (.seq (.reg [w 3 (.al [.nil,.nil,.t (.int .i64 (0)),.nil,.nil,.nil,.nil,.nil,.nil] [(5,4),(8,1)]),f 0 v1,h 2 l0,u (.ca N.eX 0 [] [.l 0]),f 2 v1,g l0,f 3 v1,g l0,u (.app (.c (.nil)) l0 true 3),f 4 v1,g l0,u (.app (.c (.nil)) l0 true 1),f 6 v1,g l0,u (.app (.c (.nil)) l0 true 1),f 7 v1,g l0,u (.app (.c (.nil)) l0 true 1),u (.bd [.nil,.nil,.t (.int .i64 (0)),.nil,.nil,.nil,.nil,.nil,.nil] [(0,2,.l 14),(2,1,.l 12),(3,1,.l 9),(4,1,.l 6),(6,1,.l 3),(7,1,.l 0)]),u (.st (.l 18) l0 9 [(5,4),(8,1)])] [(0,4),(0,9),(0,12),(0,15),(0,18),(5,1),(5,9),(5,12),(5,15),(5,18),(7,1),(10,1),(10,4),(13,1),(13,4),(13,9),(16,1),(16,4),(16,9),(16,12)]) (.seq (.seq (.reg [w 4 (.mv (.i 0))] []) (.blk 0 K.kL)) (.seq (.seq (.reg [w 6 (.mv (.i 0))] []) (.blk 2 K.kM)) (.seq (.reg [h 9 v3,u (.st v2 l0 9 [])] []) .ret))))),res:=[(2,some (9,true))]}
def pE:C:=(.its [u (.bin .lss v7 v6)] [] 0 .skip (.exit 0) (.seq (.blk 1 (.seq (.reg [a 1 v5 v7,g l0,w 4 (.mv l0)] []) (.ite [m v4,f 3 v2,g l0,u (.ln l0),u (.bin .sub l0 (.i 1)),u (.ca N.b6 0 [] [.l 4,.i 0,.l 0]),u (.un .not l0)] [] 0 (.seq (.reg [w 3 (.mv (.i 19))] []) .ret) .skip))) (.reg [u (.bin .add v7 (.i 1)),w 7 (.mv l0)] [])))
def qu:C:= .loop true [0,1,3,4] K.pE
def eG:Fn:={ nargs:=2,vars:=[0,1,2,4,6,10,11,12],body:=(.seq (.reg [w 2 (.bx v0 9),w 3 (.mv (.i 0))] []) (.seq (.ite [h 9 v2,u (.ca N.dD 0 [] [.l 0]),u (.un .not l0)] [] 0 (.seq (.reg [w 3 (.mv (.i 6))] []) .ret) .skip) (.seq (.seq (.reg [w 5 (.mv v1),w 6 (.ln l0),w 7 (.mv (.i 0))] []) (.blk 0 K.qu)) (.seq (.reg [w 3 (.mv (.i 0))] []) .ret)))),res:=[(3,none)]}
def cg:Fn:={ nargs:=3,vars:=[0,1,2,3,6,14],body:=(.seq (.reg [w 3 (.bx v0 2),w 4 (.mv (.i 0))] []) (.seq (.ite [m v1,f 1 v3,g l0,u (.ln l0),u (.bin .sub l0 (.i 1)),u (.ca N.b6 0 [] [.l 4,.i 0,.l 0]),u (.un .not l0)] [] 0 (.seq (.reg [w 4 (.mv (.i (-1)))] []) .ret) .skip) (.seq (.seq (.reg [w 5 (.mv v2)] []) (.blk 0 (.ite [f 1 v3,g l0,m v1,a 10 l1 l0,f 0 l0,g l0,u (.bin .eql v5 l0),m l0] [] 0 (.seq (.reg [h 2 v3,m v1,u (.ca N.gp 0 [] [.l 1,.l 0,.b false]),w 4 (.mv l0)] []) .ret) (.ite [f 1 v3,g l0,m v1,a 10 l1 l0,f 1 l0,g l0,u (.bin .eql v5 l0),m l0] [] 0 (.seq (.reg [h 2 v3,m v1,u (.ca N.gp 0 [] [.l 1,.l 0,.b true]),w 4 (.mv l0)] []) .ret) .skip)))) (.seq (.reg [w 4 (.mv (.i (-1)))] []) .ret)))),res:=[(4,none)]}
def iq:C:=(.its [u (.bin .lss v7 v6)] [] 0 .skip (.exit 0) (.seq (.blk 1 (.seq (.reg [m v7,w 5 (.al [.t (.int .i64 (0))] []),u (.st l0 l1 1 [])] []) (.seq (.ite [f 6 v1,g l0,g v5,a 1 l1 l0,g l0,u (.ca N.b6 0 [] [.l 0,.i (-1),.i 65535]),u (.un .not l0),m l0,y 0 false (.fa v1 7),y 1 false (.ld l0 1 false),y 2 false (.ld v5 1 false),y 3 false (.ia l1 l0 1),y 4 false (.ld l0 1 false),y 5 false (.fa v1 2),y 6 false (.ld l0 1 false),y 7 false (.ca N.b6 0 [] [.l 2,.i (-1),.l 0]),y 8 false (.un .not l0),u (.pk l9 (.b true) l0),m l0,y 0 false (.fa v1 6),y 1 false (.ld l0 1 false),y 2 false (.ld v5 1 false),y 3 false (.ia l1 l0 1),y 4 false (.ld l0 1 false),y 5 false (.bin .eql l0 (.i (-1))),y 6 false (.fa v1 7),y 7 false (.ld l0 1 false),y 8 false (.ld v5 1 false),y 9 false (.ia l1 l0 1),y 10 false (.ld l0 1 false),y 11 false (.bin .eql l0 (.i (-1))),y 12 false (.eqk (.bool) true l6 l0),u (.pk (.l 13) (.b true) l0),m l0,y 0 false (.fa v1 8),y 1 false (.ld l0 1 false),y 2 false (.ld v5 1 false),y 3 false (.ia l1 l0 1),y 4 false (.ld l0 1 false),y 5 false (.ln l0),y 6 false (.mv v3),y 7 false (.bin .neq l1 l0),u (.pk l8 (.b true) l0)] [] 0 (.seq (.reg [w 2 (.mv (.b false))] []) .ret) .skip) (.ite [f 8 v1,g l0,g v5,a 1 l1 l0,g l0,u (.mf N.cK [.v 1,.v 5]),u (.ca N.aO 0 [] [.l 1,.l 0])] [] 0 (.seq (.reg [w 2 (.mv (.b false))] []) .ret) .skip)))) (.reg [u (.bin .add v7 (.i 1)),w 7 (.mv l0)] [])))
def mX:C:= .loop true [0,2,4,5] K.iq
def dD:Fn:={ nargs:=1,vars:=[0,1,2,3,4,5,65,66],body:=(.seq (.reg [w 1 (.bx v0 9),w 2 (.mv (.b false))] []) (.seq (.reg [f 3 v1,g l0,u (.ln l0),f 5 v1,g l0,u (.ln l0),w 3 (.mv l3),w 4 (.mv l1)] []) (.seq (.ite [f 0 v1,h 2 l0,f 5 v1,g l0,u (.ca N.bY 0 [] [.l 2,.l 0]),u (.un .not l0),m l0,y 0 false (.mv v3),y 1 false (.ca N.b6 0 [] [.l 0,.i 1,.i 12]),y 2 false (.un .not l0),u (.pk l3 (.b true) l0),m l0,y 0 false (.fa v1 4),y 1 false (.ld l0 1 false),y 2 false (.ln l0),y 3 false (.mv v3),y 4 false (.bin .neq l1 l0),u (.pk l5 (.b true) l0),m l0,y 0 false (.fa v1 4),y 1 false (.ld l0 1 false),y 2 false (.ca N.dt 0 [] [.l 0]),y 3 false (.un .not l0),u (.pk l4 (.b true) l0),m l0,y 0 false (.fa v1 2),y 1 false (.ld l0 1 false),y 2 false (.ca N.b6 0 [] [.l 0,.i 0,.i 2147483648]),y 3 false (.un .not l0),u (.pk l4 (.b true) l0),m l0,y 0 false (.fa v1 6),y 1 false (.ld l0 1 false),y 2 false (.ln l0),y 3 false (.mv v4),y 4 false (.bin .neq l1 l0),u (.pk l5 (.b true) l0),m l0,y 0 false (.fa v1 7),y 1 false (.ld l0 1 false),y 2 false (.ln l0),y 3 false (.mv v4),y 4 false (.bin .neq l1 l0),u (.pk l5 (.b true) l0),m l0,y 0 false (.fa v1 8),y 1 false (.ld l0 1 false),y 2 false (.ln l0),y 3 false (.mv v4),y 4 false (.bin .neq l1 l0),u (.pk l5 (.b true) l0)] [] 0 (.seq (.reg [w 2 (.mv (.b false))] []) .ret) .skip) (.seq (.seq (.reg [f 5 v1,g l0,w 6 (.ln l0),w 7 (.mv (.i 0))] []) (.blk 0 K.mX)) (.seq (.reg [f 3 v1,g l0,u (.mf N.cL [.v 1]),u (.ca N.ax 0 [] [.l 1,.l 0]),u (.un .not l0),w 2 (.mv l0)] []) .ret))))),res:=[(2,none)]}
def fe:Fn:={ nargs:=3,vars:=[0,1,2,3,6,7,22],body:=(.seq (.reg [w 3 (.bx v0 2),w 4 (.mv (.i 0))] []) (.seq (.ite [m v1,u (.bin .lss l0 (.i 0)),m l0,y 0 false (.mv v1),y 1 false (.fa v3 1),y 2 false (.ld l0 1 false),y 3 false (.ln l0),y 4 false (.bin .geq l3 l0),u (.pk l5 (.b true) l0)] [] 0 (.seq (.reg [w 4 (.mv (.i (-1)))] []) .ret) .skip) (.seq (.seq (.reg [f 1 v3,g l0,m v1,a 10 l1 l0,h 10 l0,w 5 (.al [.t (.int .i64 (0)),.t (.int .i64 (0)),.t (.int .i64 (0)),.t (.int .i64 (0)),.t (.bool false),.t (.bool false),.t (.int .i64 (0)),.t (.int .i64 (0)),.t (.int .i64 (0)),.t (.int .i64 (0))] []),u (.st l0 l1 10 [])] []) (.seq (.reg [w 6 (.mv v2)] []) (.blk 0 (.ite [f 0 v5,g l0,u (.bin .eql v6 l0),m l0] [] 0 (.seq (.reg [f 1 v5,g l0,w 4 (.mv l0)] []) .ret) (.ite [f 1 v5,g l0,u (.bin .eql v6 l0),m l0] [] 0 (.seq (.reg [f 0 v5,g l0,w 4 (.mv l0)] []) .ret) .skip))))) (.seq (.reg [w 4 (.mv (.i (-1)))] []) .ret)))),res:=[(4,none)]}
def cP:Fn:={ nargs:=4,vars:=[0,1,2,3,4,8,9,10],body:=(.seq (.reg [w 4 (.bx v0 9),w 5 (.al [.nil,.nil,.t (.int .i64 (0)),.nil,.nil,.nil,.nil,.nil,.nil] []),w 6 (.mv (.i 0))] []) (.seq (.reg [h 9 v4,u (.ca N.de 1 [] [.l 0]),u (.st v4 l0 9 [])] []) (.seq (.blk 0 (.ite [h 9 v4,u (.ca N.c7 0 [] [.l 0]),u (.un .not l0),m l0] [] 0 (.seq (.reg [h 9 v4,u (.st v5 l0 9 []),w 6 (.mv (.i 6))] []) .ret) (.ite [h 9 v4,m v1,u (.ca N.cQ 0 [] [.l 1,.l 0]),u (.un .not l0),m l0] [] 0 (.seq (.reg [h 9 v4,u (.st v5 l0 9 []),w 6 (.mv (.i 19))] []) .ret) (.ite [f 3 v4,g l0,m v1,a 3 l1 l0,f 1 l0,g l0,u (.bin .neq l0 (.i (-1))),m l0] [] 0 (.seq (.reg [h 9 v4,u (.st v5 l0 9 []),w 6 (.mv (.i 10))] []) .ret) (.ite [f 0 v4,h 2 l0,m v2,f 3 v4,g l0,m v1,a 3 l1 l0,f 0 l0,g l0,u (.ca N.bC 0 [] [.l 7,.l 6,.l 0]),u (.bin .lss l0 (.i 0)),m l0] [] 0 (.seq (.reg [h 9 v4,u (.st v5 l0 9 []),w 6 (.mv (.i 4))] []) .ret) (.ite [m v3,u (.bin .lss l0 (.i 0)),m l0,y 0 false (.mv v3),y 1 false (.bin .gtr l0 (.i 3600)),u (.pk l2 (.b true) l0),m l0] [] 0 (.seq (.reg [h 9 v4,u (.st v5 l0 9 []),w 6 (.mv (.i 1))] []) .ret) .skip)))))) (.seq (.reg [f 3 v4,g l0,m v1,a 3 l1 l0,w 7 (.mv l0)] []) (.seq (.reg [m v7,m v7,m v2,f 0 v4,h 2 l0,m v2,m v7,u (.nc l0),f 0 l0,g l0,u (.ca N.bC 0 [] [.l 5,.l 4,.l 0]),m v3,u (.bin .add l1 l0),u (.nc (.l 12)),f 1 l0,u (.st l0 (.l 12) 1 []),u (.nc (.l 14)),f 2 l0,u (.st l0 l5 1 [])] []) (.seq (.reg [h 9 v4,u (.st v5 l0 9 []),w 6 (.mv (.i 0))] []) .ret)))))),res:=[(5,some (9,true)),(6,none)]}
def ez:Fn:={ nargs:=2,vars:=[0,1,2,4,5],body:=(.seq (.reg [w 2 (.bx v0 9),w 3 (.al [.nil,.nil,.t (.int .i64 (0)),.nil,.nil,.nil,.nil,.nil,.nil] []),w 4 (.mv (.i 0))] []) (.seq (.reg [h 9 v2,u (.ca N.de 1 [] [.l 0]),u (.st v2 l0 9 [])] []) (.seq (.blk 0 (.ite [h 9 v2,u (.ca N.c7 0 [] [.l 0]),u (.un .not l0),m l0] [] 0 (.seq (.reg [h 9 v2,u (.st v3 l0 9 []),w 4 (.mv (.i 6))] []) .ret) (.ite [h 9 v2,m v1,u (.ca N.cQ 0 [] [.l 1,.l 0]),u (.un .not l0),m l0] [] 0 (.seq (.reg [h 9 v2,u (.st v3 l0 9 []),w 4 (.mv (.i 19))] []) .ret) (.ite [f 3 v2,g l0,m v1,a 3 l1 l0,f 1 l0,g l0,u (.bin .eql l0 (.i (-1))),m l0] [] 0 (.seq (.reg [h 9 v2,u (.st v3 l0 9 []),w 4 (.mv (.i 10))] []) .ret) .skip)))) (.seq (.reg [f 3 v2,g l0,m v1,f 3 v2,g l0,m v1,a 3 l4 l3,f 1 l0,u (.st l0 (.i (-1)) 1 []),a 3 l4 l3,f 2 l0,u (.st l0 (.i 0) 1 [])] [(4,9)]) (.seq (.reg [h 9 v2,u (.st v3 l0 9 []),w 4 (.mv (.i 0))] []) .ret))))),res:=[(3,some (9,true)),(4,none)]}
def fR:C:=(.seq (.ite [m v5,f 3 v2,g l0,u (.ln l0),u (.bin .lss l3 l0)] [] 0 .skip (.exit 1)) (.seq (.blk 2 (.seq (.reg [f 3 v2,g l0,m v5,a 3 l1 l0,w 6 (.mv l0)] []) (.seq (.ite [m v6,u (.nc l0),f 1 l0,g l0,u (.bin .eql l0 (.i (-1)))] [] 0 (.exit 2) .skip) (.seq (.reg [m v6,u (.nc l0),f 2 l0,g l0,m v1,u (.bin .sub l1 l0),u (.nc l5),f 2 l0,u (.st l0 l2 1 [])] []) (.ite [m v6,u (.nc l0),f 2 l0,g l0,u (.bin .leq l0 (.i 0))] [] 0 (.seq (.reg [w 7 (.al [.t (.int .i64 (0)),.t (.int .i64 (0)),.t (.int .i64 (0)),.t (.int .i64 (0)),.t (.bool false),.t (.bool false),.t (.int .i64 (0)),.t (.int .i64 (0)),.t (.int .i64 (0)),.t (.int .i64 (0))] []),f 0 v2,f 1 l0,g l0,m v6,u (.nc l0),f 1 l0,g l0,a 10 l4 l0,h 10 l0,u (.st l9 l0 10 [])] []) (.seq (.ite [m v6,u (.nc l0),f 0 l0,g l0,f 0 v7,g l0,u (.bin .eql l2 l0)] [] 0 (.reg [m v6,f 1 v7,g l0,u (.nc l2),f 0 l0,u (.st l0 l2 1 [])] []) (.reg [m v6,f 0 v7,g l0,u (.nc l2),f 0 l0,u (.st l0 l2 1 [])] [])) (.reg [m v6,m v6,u (.nc l1),f 1 l0,u (.st l0 (.i (-1)) 1 []),u (.nc l3),f 2 l0,u (.st l0 (.i 0) 1 [])] []))) .skip))))) (.reg [m v5,u (.bin .add l0 (.i 1)),w 5 (.mv l0)] [])))
def oU:C:= .loop true [0,4,6,7] K.fR
def dM:Fn:={ nargs:=2,vars:=[0,1,2,4,5,6,7,8],body:=(.seq (.reg [w 2 (.bx v0 9),w 3 (.al [.nil,.nil,.t (.int .i64 (0)),.nil,.nil,.nil,.nil,.nil,.nil] []),w 4 (.mv (.i 0))] []) (.seq (.reg [h 9 v2,u (.ca N.de 1 [] [.l 0]),u (.st v2 l0 9 [])] []) (.seq (.blk 0 (.ite [h 9 v2,u (.ca N.c7 0 [] [.l 0]),u (.un .not l0),m l0] [] 0 (.seq (.reg [h 9 v2,u (.st v3 l0 9 []),w 4 (.mv (.i 6))] []) .ret) (.ite [m v1,u (.bin .lss l0 (.i 0)),m l0,y 0 false (.mv v1),y 1 false (.bin .gtr l0 (.i 3600)),u (.pk l2 (.b true) l0),m l0] [] 0 (.seq (.reg [h 9 v2,u (.st v3 l0 9 []),w 4 (.mv (.i 1))] []) .ret) (.ite [f 2 v2,g l0,m v1,u (.bin .add l1 l0),u (.bin .gtr l0 (.i 2147483648)),m l0] [] 0 (.seq (.reg [h 9 v2,u (.st v3 l0 9 []),w 4 (.mv (.i 8))] []) .ret) .skip)))) (.seq (.reg [f 2 v2,g l0,m v1,u (.bin .add l1 l0),f 2 v2,u (.st l0 l1 1 [])] []) (.seq (.seq (.reg [w 5 (.mv (.i 0))] []) (.blk 1 K.oU)) (.seq (.reg [h 9 v2,u (.st v3 l0 9 []),w 4 (.mv (.i 0))] []) .ret)))))),res:=[(3,some (9,true)),(4,none)]}
def aA:C:=(.seq (.ite [m v12,f 3 v10,g l0,u (.ln l0),u (.bin .lss l3 l0),m l0,y 0 true (.fa v10 3),y 1 true (.ld l0 1 false),y 2 true (.mv v12),y 3 true (.ia l1 l0 1),y 4 true (.ld l0 1 false),y 5 true (.fa v4 4),y 6 true (.ld l0 1 false),y 7 true (.mv v11),y 8 true (.ia l1 l0 1),y 9 true (.ld l0 1 false),y 10 true (.bin .lss l5 l0),u (.pk l11 l0 (.b false))] [] 0 .skip (.exit 2)) (.blk 3 (.reg [m v12,u (.bin .add l0 (.i 1)),w 12 (.mv l0)] [])))
def bk:C:= .loop false [0,3,7,13] K.aA
def ab:C:=(.seq (.ite [m v11,f 3 v4,g l0,u (.ln l0),u (.bin .lss l3 l0)] [] 0 .skip (.exit 0)) (.seq (.blk 1 (.seq (.ite [f 0 v8,g l0,f 3 v4,g l0,m v11,a 3 l1 l0,f 0 l0,g l0,u (.ca N.gj 0 [] [.l 6,.l 0]),u (.un .not l0)] [] 0 (.seq (.reg [f 8 v9,g l0,m v1,a 1 l1 l0,g l0,m v11,a 1 l1 l0,u (.st l0 (.i 0) 1 [])] []) (.exit 1)) .skip) (.seq (.ite [m v2,m v11,u (.cv .u64 l0),u (.bin .shr l2 l0),u (.bin .and l0 (.i 1)),u (.bin .eql l0 (.i 1))] [] 0 (.seq (.reg [f 8 v9,g l0,m v1,a 1 l1 l0,g l0,m v11,a 1 l1 l0,g l0,u (.bin .add l0 (.i 1)),a 1 l4 l3,u (.st l0 l1 1 [])] []) (.seq (.ite [f 8 v9,g l0,m v1,a 1 l1 l0,g l0,m v11,a 1 l1 l0,g l0,f 2 v8,g l0,u (.bin .gtr l2 l0)] [] 0 (.seq (.reg [h 9 v4,u (.bd [.t (.int .i64 (0)),.t (.int .i64 (0)),.t (.int .i64 (0)),.nil] []),u (.st v5 l1 9 []),u (.st v6 l1 4 []),w 7 (.mv (.i 43))] []) .ret) .skip) (.exit 1))) .skip) (.seq (.reg [f 8 v9,g l0,m v1,a 1 l1 l0,g l0,m v11,a 1 l1 l0,u (.st l0 (.i 0) 1 [])] []) (.seq (.reg [w 12 (.mv (.i 0))] []) (.seq (.blk 2 K.bk) (.reg [f 3 v10,g l0,m v12,u (.sc l1 none (some l0) 1),u (.app (.c (.nil)) l0 true 1),f 4 v4,g l0,m v11,a 1 l1 l0,g l0,u (.bs [.l 0] 1),u (.app l6 l0 true 1),f 3 v10,g l0,m v12,u (.sc l1 (some l0) none 1),u (.app l4 l0 true 1),f 3 v10,u (.st l0 l1 1 [])] [(6,0),(8,0),(9,0),(10,0),(13,0),(13,5),(15,0),(15,5)]))))))) (.reg [m v11,u (.bin .add l0 (.i 1)),w 11 (.mv l0)] [])))
def fA:C:= .loop false [0,3,7,12,13] K.ab
def ah:Fn:={ nargs:=4,vars:=[0,1,2,3,4,8,9,10,11,12,13,14,15,16],body:=(.seq (.reg [w 4 (.bx v0 9),w 5 (.al [.nil,.nil,.t (.int .i64 (0)),.nil,.nil,.nil,.nil,.nil,.nil] []),w 6 (.al [.t (.int .i64 (0)),.t (.int .i64 (0)),.t (.int .i64 (0)),.nil] []),w 7 (.mv (.i 0))] []) (.seq (.reg [h 9 v4,u (.ca N.de 0 [] [.l 0]),u (.st v4 l0 9 [])] []) (.seq (.ite [h 9 v4,u (.ca N.c7 0 [] [.l 0]),u (.un .not l0)] [] 0 (.seq (.reg [h 9 v4,u (.bd [.t (.int .i64 (0)),.t (.int .i64 (0)),.t (.int .i64 (0)),.nil] []),u (.st v5 l1 9 []),u (.st v6 l1 4 []),w 7 (.mv (.i 6))] []) .ret) .skip) (.seq (.ite [m v1,u (.bin .lss l0 (.i 0)),m l0,y 0 false (.mv v1),y 1 false (.fa v4 5),y 2 false (.ld l0 1 false),y 3 false (.ln l0),y 4 false (.bin .geq l3 l0),u (.pk l5 (.b true) l0)] [] 0 (.seq (.reg [h 9 v4,u (.bd [.t (.int .i64 (0)),.t (.int .i64 (0)),.t (.int .i64 (0)),.nil] []),u (.st v5 l1 9 []),u (.st v6 l1 4 []),w 7 (.mv (.i 40))] []) .ret) .skip) (.seq (.reg [f 5 v4,g l0,m v1,a 4 l1 l0,h 4 l0,w 8 (.al [.nil,.t (.int .i64 (0)),.t (.int .i64 (0)),.t (.int .i64 (0))] []),u (.st l0 l1 4 [])] []) (.seq (.ite [m v3,f 3 v8,g l0,u (.un .neg l0),u (.bin .lss l3 l0),m l0,y 0 false (.mv v3),y 1 false (.fa v8 3),y 2 false (.ld l0 1 false),y 3 false (.bin .gtr l2 l0),u (.pk l4 (.b true) l0),m l0,y 0 false (.fa v4 2),y 1 false (.ld l0 1 false),y 2 false (.mv v3),y 3 false (.bin .add l1 l0),y 4 false (.bin .lss l0 (.i 0)),u (.pk l5 (.b true) l0),m l0,y 0 false (.fa v4 2),y 1 false (.ld l0 1 false),y 2 false (.mv v3),y 3 false (.bin .add l1 l0),y 4 false (.bin .gtr l0 (.i 2147483648)),u (.pk l5 (.b true) l0)] [] 0 (.seq (.reg [h 9 v4,u (.bd [.t (.int .i64 (0)),.t (.int .i64 (0)),.t (.int .i64 (0)),.nil] []),u (.st v5 l1 9 []),u (.st v6 l1 4 []),w 7 (.mv (.i 1))] []) .ret) .skip) (.seq (.reg [h 9 v4,u (.ca N.aW 2 [] [.l 0]),w 9 (.al [.nil,.nil,.t (.int .i64 (0)),.nil,.nil,.nil,.nil,.nil,.nil] []),u (.st l0 l1 9 [])] []) (.seq (.reg [m v1,f 2 v4,g l0,m v3,u (.bin .add l1 l0),u (.bd [.t (.int .i64 (0)),.t (.int .i64 (0)),.t (.int .i64 (0)),.nil] [(0,1,.l 4),(2,1,.l 0)]),w 10 (.al [.t (.int .i64 (0)),.t (.int .i64 (0)),.t (.int .i64 (0)),.nil] []),u (.st l0 l1 4 [])] []) (.seq (.seq (.reg [w 11 (.mv (.i 0))] []) (.blk 0 K.fA)) (.seq (.reg [w 13 (.mv (.i 1))] []) (.seq (.ite [f 7 v4,g l0,m v1,a 1 l1 l0,g l0,u (.bin .geq l0 (.i 0)),m l0,y 0 true (.fa v4 2),y 1 true (.ld l0 1 false),y 2 true (.fa v4 7),y 3 true (.ld l0 1 false),y 4 true (.mv v1),y 5 true (.ia l1 l0 1),y 6 true (.ld l0 1 false),y 7 true (.bin .sub l5 l0),y 8 true (.fa v8 1),y 9 true (.ld l0 1 false),y 10 true (.bin .gtr l2 l0),u (.pk l11 l0 (.b false))] [] 0 (.reg [w 13 (.mv (.i 2))] []) .skip) (.seq (.reg [f 6 v9,g l0,m v1,f 6 v4,g l0,m v1,a 1 l1 l0,g l0,m v13,u (.bin .add l1 l0),u (.bin .rem l0 (.i 65536)),a 1 l9 l8,u (.st l0 l1 1 [])] []) (.seq (.reg [f 7 v9,g l0,m v1,f 2 v4,g l0,a 1 l3 l2,u (.st l0 l1 1 [])] []) (.seq (.reg [f 6 v9,g l0,m v1,a 1 l1 l0,g l0,f 1 v10,u (.st l0 l1 1 [])] []) (.seq (.reg [h 9 v9,h 4 v10,u (.st v5 l1 9 []),u (.st v6 l1 4 []),w 7 (.mv (.i 0))] [(1,3)]) .ret))))))))))))))),res:=[(5,some (9,true)),(6,some (4,true)),(7,none)]}
end Go.Ev.K
namespace Go.Ev
class dU [Lib]:Prop where
 lW:Lib.fs N.fQ=some K.fQ
 qi:Lib.fs N.gV=some K.gV
 iG:Lib.fs N.bY=some K.bY
 lX:Lib.fs N.eF=some K.eF
 jX:Lib.fs N.dt=some K.dt
 mY:Lib.fs N.fj=some K.fj
 kN:Lib.fs N.dj=some K.dj
 iX:Lib.fs N.cy=some K.cy
 jN:Lib.fs N.de=some K.de
 lY:Lib.fs N.eG=some K.eG
 jY:Lib.fs N.cg=some K.cg
 kO:Lib.fs N.dD=some K.dD
 lZ:Lib.fs N.fe=some K.fe
 kP:Lib.fs N.cP=some K.cP
 ma:Lib.fs N.ez=some K.ez
 mc:Lib.fs N.dM=some K.dM
 aP:Lib.fs N.ah=some K.ah
namespace K
variable [Lib] [dU]
theorem lW:Lib.fs N.fQ=some K.fQ:=dU.lW
theorem qi:Lib.fs N.gV=some K.gV:=dU.qi
theorem iG:Lib.fs N.bY=some K.bY:=dU.iG
theorem lX:Lib.fs N.eF=some K.eF:=dU.lX
theorem jX:Lib.fs N.dt=some K.dt:=dU.jX
theorem mY:Lib.fs N.fj=some K.fj:=dU.mY
theorem kN:Lib.fs N.dj=some K.dj:=dU.kN
theorem iX:Lib.fs N.cy=some K.cy:=dU.iX
theorem jN:Lib.fs N.de=some K.de:=dU.jN
theorem lY:Lib.fs N.eG=some K.eG:=dU.lY
theorem jY:Lib.fs N.cg=some K.cg:=dU.jY
theorem kO:Lib.fs N.dD=some K.dD:=dU.kO
theorem lZ:Lib.fs N.fe=some K.fe:=dU.lZ
theorem kP:Lib.fs N.cP=some K.cP:=dU.kP
theorem ma:Lib.fs N.ez=some K.ez:=dU.ma
theorem mc:Lib.fs N.dM=some K.dM:=dU.mc
theorem aP:Lib.fs N.ah=some K.ah:=dU.aP
end K
end Go.Ev
namespace Go.Ev.K
open Go.Ev
def cH:C:=(.seq (.ite [m v6,f 8 v3,g l0,u (.ln l0),u (.bin .lss l3 l0)] [] 0 .skip (.exit 1)) (.seq (.blk 2 (.reg [f 8 v3,g l0,m v6,a 1 l1 l0,g l0,m v1,f 8 v3,g l0,m v6,a 1 l1 l0,g l0,m v2,f 8 v3,g l0,m v6,a 1 l1 l0,g l0,m v2,a 1 l1 l0,g l0,f 8 v3,g l0,m v6,a 1 l1 l0,g l0,m v1,a 1 l1 l0,g l0,a 1 (.l 23) (.l 22),u (.st l0 l9 1 []),a 1 (.l 19) (.l 18),u (.st l0 l3 1 [])] [])) (.reg [m v6,u (.bin .add l0 (.i 1)),w 6 (.mv l0)] [])))
def uC:C:= .loop false [0,5] K.cH
def aU:Fn:={ nargs:=3,vars:=[0,1,2,3,6,7,8],body:=(.seq (.reg [w 3 (.bx v0 9),w 4 (.al [.nil,.nil,.t (.int .i64 (0)),.nil,.nil,.nil,.nil,.nil,.nil] []),w 5 (.mv (.i 0))] []) (.seq (.reg [h 9 v3,u (.ca N.aW 2 [] [.l 0]),u (.st v3 l0 9 [])] []) (.seq (.blk 0 (.ite [h 9 v3,u (.ca N.c7 0 [] [.l 0]),u (.un .not l0),m l0] [] 0 (.seq (.reg [h 9 v3,u (.st v4 l0 9 []),w 5 (.mv (.i 6))] []) .ret) (.ite [h 9 v3,m v1,u (.ca N.cQ 0 [] [.l 1,.l 0]),u (.un .not l0),m l0,y 0 false (.ld v3 9 true),y 1 false (.mv v2),y 2 false (.ca N.cQ 0 [] [.l 1,.l 0]),y 3 false (.un .not l0),u (.pk l4 (.b true) l0),m l0,y 0 false (.mv v1),y 1 false (.mv v2),y 2 false (.bin .eql l1 l0),u (.pk l3 (.b true) l0),m l0] [] 0 (.seq (.reg [h 9 v3,u (.st v4 l0 9 []),w 5 (.mv (.i 19))] []) .ret) (.ite [f 3 v3,g l0,m v1,a 3 l1 l0,f 0 l0,g l0,f 3 v3,g l0,m v2,a 3 l1 l0,f 0 l0,g l0,u (.bin .neq l6 l0),m l0] [] 0 (.seq (.reg [h 9 v3,u (.st v4 l0 9 []),w 5 (.mv (.i 3))] []) .ret) .skip)))) (.seq (.reg [f 4 v3,g l0,m v1,f 4 v3,g l0,m v2,f 4 v3,g l0,m v2,a 1 l1 l0,g l0,f 4 v3,g l0,m v1,a 1 l1 l0,g l0,a 1 (.l 14) (.l 13),u (.st l0 l6 1 []),a 1 (.l 13) (.l 12),u (.st l0 l3 1 [])] [(4,18)]) (.seq (.seq (.reg [w 6 (.mv (.i 0))] []) (.blk 1 K.uC)) (.seq (.reg [h 9 v3,u (.st v4 l0 9 []),w 5 (.mv (.i 0))] []) .ret)))))),res:=[(4,some (9,true)),(5,none)]}
def bu:Fn:={ nargs:=2,vars:=[0,1,2,3],body:=(.seq (.reg [w 2 (.bx v0 4),w 3 (.mv (.b false))] []) (.seq (.reg [f 0 v2,g l0,u (.ln l0),u (.bin .eql l0 (.i 0)),m l0,y 0 false (.fa v2 0),y 1 false (.ld l0 1 false),y 2 false (.fa v1 0),y 3 false (.ld l0 1 false),y 4 false (.ln l0),y 5 false (.bin .sub l0 (.i 1)),y 6 false (.ca N.dm 0 [] [.l 4,.i 0,.l 0]),y 7 false (.un .not l0),u (.pk l8 (.b true) l0),m l0,y 0 false (.fa v2 1),y 1 false (.ld l0 1 false),y 2 false (.ca N.b6 0 [] [.l 0,.i 1,.i 600]),y 3 false (.un .not l0),u (.pk l4 (.b true) l0),m l0,y 0 false (.fa v2 2),y 1 false (.ld l0 1 false),y 2 false (.ca N.b6 0 [] [.l 0,.i 0,.i 10]),y 3 false (.un .not l0),u (.pk l4 (.b true) l0),m l0,y 0 false (.fa v2 3),y 1 false (.ld l0 1 false),y 2 false (.ca N.b6 0 [] [.l 0,.i 0,.i 60]),y 3 false (.un .not l0),u (.pk l4 (.b true) l0),w 3 (.mv l0)] []) .ret)),res:=[(3,none)]}
def ao:Fn:={ nargs:=2,vars:=[0,1,4],body:=(.seq (.reg [w 2 (.mv (.b false))] []) (.seq (.reg [m v0,m v1,u (.ca N.aC 0 [] [.l 1,.l 0]),u (.bin .geq l0 (.i 0)),w 2 (.mv l0)] []) .ret)),res:=[(2,none)]}
def aq:Fn:={ nargs:=1,vars:=[0,2],body:=(.seq (.reg [w 1 (.mv (.c (.nil)))] []) (.itk [m v0,u (.eqk (.sl) false l0 (.c (.nil)))] [] 0 (.seq (.reg [w 1 (.nw 3)] []) .ret) .skip (.seq (.reg [u (.bsr [] 3),m v0,u (.app l1 l0 false 3),w 1 (.mv l0)] []) .ret))),res:=[(1,none)]}
def cK:Fn:={ nargs:=3,vars:=[0,1,2,4],body:=(.seq (.reg [w 3 (.mv (.b false))] []) (.seq (.reg [m v0,f 5 v1,g l0,g v2,a 4 l1 l0,f 2 l0,g l0,u (.ca N.b6 0 [] [.l 6,.i 0,.l 0]),u (.un .not l0),w 3 (.mv l0)] []) .ret)),res:=[(3,none)]}
def ax:Fn:={ nargs:=2,vars:=[0,1,4],body:=(.seq (.reg [w 2 (.mv (.b false))] []) (.seq (.reg [m v0,m v1,u (.ca N.aI 0 [] [.l 1,.l 0]),u (.bin .geq l0 (.i 0)),w 2 (.mv l0)] []) .ret)),res:=[(2,none)]}
def cL:Fn:={ nargs:=2,vars:=[0,1,2,3],body:=(.seq (.reg [w 2 (.bx v0 3),w 3 (.mv (.b false))] []) (.seq (.reg [f 0 v1,h 2 l0,h 3 v2,u (.ca N.cZ 0 [] [.l 1,.l 0]),u (.un .not l0),w 3 (.mv l0)] []) .ret)),res:=[(3,none)]}
def cZ:Fn:={ nargs:=2,vars:=[0,1,2,3,4],body:=(.seq (.reg [w 2 (.bx v0 2),w 3 (.bx v1 3),w 4 (.mv (.b false))] []) (.seq (.blk 0 (.ite [f 0 v3,g l0,f 0 v2,g l0,u (.ln l0),u (.bin .sub l0 (.i 1)),u (.ca N.b6 0 [] [.l 4,.i 0,.l 0]),u (.un .not l0),m l0] [] 0 (.seq (.reg [w 4 (.mv (.b false))] []) .ret) (.ite [f 1 v3,g l0,u (.bin .eql l0 (.i (-1))),m l0] [] 0 (.seq (.reg [f 2 v3,g l0,u (.bin .eql l0 (.i 0)),w 4 (.mv l0)] []) .ret) .skip))) (.seq (.reg [h 2 v2,f 1 v3,g l0,f 0 v3,g l0,u (.ca N.cg 0 [] [.l 4,.l 2,.l 0]),u (.bin .geq l0 (.i 0)),m l0,y 0 true (.fa v3 2),y 1 true (.ld l0 1 false),y 2 true (.ca N.b6 0 [] [.l 0,.i 1,.i 2147483648]),u (.pk l3 l0 (.b false)),w 4 (.mv l0)] []) .ret))),res:=[(4,none)]}
def ir:C:=(.seq (.ite [m v4,m v3,u (.bin .lss l1 l0)] [] 0 .skip (.exit 0)) (.seq (.blk 1 (.seq (.reg [f 3 v1,g l0,m v4,a 3 l1 l0,h 3 l0,w 5 (.al [.t (.int .i64 (0)),.t (.int .i64 (0)),.t (.int .i64 (0))] []),u (.st l0 l1 3 [])] []) (.seq (.ite [f 0 v5,g l0,u (.bin .lss l0 (.i 0)),m l0,y 0 false (.fa v5 0),y 1 false (.ld l0 1 false),y 2 false (.fa v1 0),y 3 false (.fa l0 0),y 4 false (.ld l0 1 false),y 5 false (.ln l0),y 6 false (.bin .geq l4 l0),u (.pk l7 (.b true) l0)] [] 0 (.seq (.reg [w 2 (.mv (.b false))] []) .ret) .skip) (.ite [f 1 v5,g l0,u (.bin .eql l0 (.i (-1))),m l0,y 0 true (.fa v5 2),y 1 true (.ld l0 1 false),y 2 true (.bin .neq l0 (.i 0)),u (.pk l3 l0 (.b false)),m l0,y 0 false (.fa v5 1),y 1 false (.ld l0 1 false),y 2 false (.bin .neq l0 (.i (-1))),y 3 false (.mv l0),y 0 true (.fa v1 0),y 1 true (.ld l0 2 true),y 2 true (.fa v5 1),y 3 true (.ld l0 1 false),y 4 true (.fa v5 0),y 5 true (.ld l0 1 false),y 6 true (.ca N.bC 0 [] [.l 4,.l 2,.l 0]),y 7 true (.bin .lss l0 (.i 0)),y 8 true (.mv l0),y 0 false (.fa v5 2),y 1 false (.ld l0 1 false),y 2 false (.bin .lss l0 (.i 1)),y 12 true (.pk l3 (.b true) l0),y 13 true (.mv l0),y 0 false (.fa v5 2),y 1 false (.ld l0 1 false),y 2 false (.bin .gtr l0 (.i 2147483648)),y 17 true (.pk l3 (.b true) l0),y 22 false (.pk (.l 18) l0 (.b false)),u (.pk (.l 23) (.b true) l0)] [] 0 (.seq (.reg [w 2 (.mv (.b false))] []) .ret) .skip)))) (.reg [m v4,u (.bin .add l0 (.i 1)),w 4 (.mv l0)] [])))
def mZ:C:= .loop true [0,2,5,6,7,8] K.ir
def ju:C:=(.seq (.ite [m v8,m v3,u (.bin .lss l1 l0)] [] 0 .skip (.exit 4)) (.seq (.blk 5 (.ite [f 8 v1,g l0,m v7,a 1 l1 l0,g l0,m v8,a 1 l1 l0,g l0,u (.bin .lss l0 (.i 0)),m l0,y 0 false (.fa v1 8),y 1 false (.ld l0 1 false),y 2 false (.mv v7),y 3 false (.ia l1 l0 1),y 4 false (.ld l0 1 false),y 5 false (.mv v8),y 6 false (.ia l1 l0 1),y 7 false (.ld l0 1 false),y 8 false (.fa v1 5),y 9 false (.ld l0 1 false),y 10 false (.mv v7),y 11 false (.ia l1 l0 4),y 12 false (.fa l0 2),y 13 false (.ld l0 1 false),y 14 false (.bin .gtr l6 l0),u (.pk (.l 15) (.b true) l0)] [] 0 (.seq (.reg [w 2 (.mv (.b false))] []) .ret) .skip)) (.reg [m v8,u (.bin .add l0 (.i 1)),w 8 (.mv l0)] [])))
def m5:C:= .loop true [0,2,4,5] K.ju
def iu:C:=(.seq (.ite [m v7,m v6,u (.bin .lss l1 l0)] [] 0 .skip (.exit 2)) (.seq (.blk 3 (.seq (.ite [f 6 v1,g l0,m v7,a 1 l1 l0,g l0,u (.bin .lss l0 (.i (-1))),m l0,y 0 false (.fa v1 6),y 1 false (.ld l0 1 false),y 2 false (.mv v7),y 3 false (.ia l1 l0 1),y 4 false (.ld l0 1 false),y 5 false (.bin .gtr l0 (.i 65535)),u (.pk l6 (.b true) l0),m l0,y 0 false (.fa v1 7),y 1 false (.ld l0 1 false),y 2 false (.mv v7),y 3 false (.ia l1 l0 1),y 4 false (.ld l0 1 false),y 5 false (.bin .lss l0 (.i (-1))),u (.pk l6 (.b true) l0),m l0,y 0 false (.fa v1 7),y 1 false (.ld l0 1 false),y 2 false (.mv v7),y 3 false (.ia l1 l0 1),y 4 false (.ld l0 1 false),y 5 false (.fa v1 2),y 6 false (.ld l0 1 false),y 7 false (.bin .gtr l2 l0),u (.pk l8 (.b true) l0),m l0,y 0 false (.fa v1 7),y 1 false (.ld l0 1 false),y 2 false (.mv v7),y 3 false (.ia l1 l0 1),y 4 false (.ld l0 1 false),y 5 false (.bin .eql l0 (.i (-1))),y 6 false (.fa v1 6),y 7 false (.ld l0 1 false),y 8 false (.mv v7),y 9 false (.ia l1 l0 1),y 10 false (.ld l0 1 false),y 11 false (.bin .eql l0 (.i (-1))),y 12 false (.eqk (.bool) true l6 l0),u (.pk (.l 13) (.b true) l0),m l0,y 0 false (.fa v1 8),y 1 false (.ld l0 1 false),y 2 false (.mv v7),y 3 false (.ia l1 l0 1),y 4 false (.ld l0 1 false),y 5 false (.ln l0),y 6 false (.mv v3),y 7 false (.bin .neq l1 l0),u (.pk l8 (.b true) l0)] [] 0 (.seq (.reg [w 2 (.mv (.b false))] []) .ret) .skip) (.seq (.reg [w 8 (.mv (.i 0))] []) (.blk 4 K.m5)))) (.reg [m v7,u (.bin .add l0 (.i 1)),w 7 (.mv l0)] [])))
def m6:C:= .loop true [0,2,4,5,8] K.iu
def c7:Fn:={ nargs:=1,vars:=[0,1,2,3,4,5,6,7,8],body:=(.seq (.reg [w 1 (.bx v0 9),w 2 (.mv (.b false))] []) (.seq (.reg [f 3 v1,g l0,u (.ln l0),w 3 (.mv l0)] []) (.seq (.ite [f 0 v1,h 2 l0,f 5 v1,g l0,u (.ca N.dj 0 [] [.l 2,.l 0]),u (.un .not l0),m l0,y 0 false (.mv v3),y 1 false (.bin .lss l0 (.i 1)),u (.pk l2 (.b true) l0),m l0,y 0 false (.mv v3),y 1 false (.bin .gtr l0 (.i 12)),u (.pk l2 (.b true) l0),m l0,y 0 false (.fa v1 4),y 1 false (.ld l0 1 false),y 2 false (.ln l0),y 3 false (.mv v3),y 4 false (.bin .neq l1 l0),u (.pk l5 (.b true) l0),m l0,y 0 false (.fa v1 4),y 1 false (.ld l0 1 false),y 2 false (.ca N.cy 0 [] [.l 0]),y 3 false (.un .not l0),u (.pk l4 (.b true) l0),m l0,y 0 false (.fa v1 2),y 1 false (.ld l0 1 false),y 2 false (.bin .lss l0 (.i 0)),u (.pk l3 (.b true) l0),m l0,y 0 false (.fa v1 2),y 1 false (.ld l0 1 false),y 2 false (.bin .gtr l0 (.i 2147483648)),u (.pk l3 (.b true) l0)] [] 0 (.seq (.reg [w 2 (.mv (.b false))] []) .ret) .skip) (.seq (.seq (.reg [w 4 (.mv (.i 0))] []) (.blk 0 K.mZ)) (.seq (.reg [f 5 v1,g l0,u (.ln l0),w 6 (.mv l0)] []) (.seq (.ite [f 6 v1,g l0,u (.ln l0),m v6,u (.bin .neq l1 l0),m l0,y 0 false (.fa v1 7),y 1 false (.ld l0 1 false),y 2 false (.ln l0),y 3 false (.mv v6),y 4 false (.bin .neq l1 l0),u (.pk l5 (.b true) l0),m l0,y 0 false (.fa v1 8),y 1 false (.ld l0 1 false),y 2 false (.ln l0),y 3 false (.mv v6),y 4 false (.bin .neq l1 l0),u (.pk l5 (.b true) l0)] [] 0 (.seq (.reg [w 2 (.mv (.b false))] []) .ret) .skip) (.seq (.seq (.reg [w 7 (.mv (.i 0))] []) (.blk 2 K.m6)) (.seq (.reg [w 2 (.mv (.b true))] []) .ret)))))))),res:=[(2,none)]}
def cQ:Fn:={ nargs:=2,vars:=[0,1,2,4],body:=(.seq (.reg [w 2 (.bx v0 9),w 3 (.mv (.b false))] []) (.seq (.reg [m v1,u (.bin .geq l0 (.i 0)),m l0,y 0 true (.mv v1),y 1 true (.fa v2 3),y 2 true (.ld l0 1 false),y 3 true (.ln l0),y 4 true (.bin .lss l3 l0),u (.pk l5 l0 (.b false)),w 3 (.mv l0)] []) .ret)),res:=[(3,none)]}
def bC:Fn:={ nargs:=3,vars:=[0,1,2,3,6],body:=(.seq (.reg [w 3 (.bx v0 2),w 4 (.mv (.i 0))] []) (.seq (.ite [m v1,u (.bin .lss l0 (.i 0)),m l0,y 0 false (.mv v1),y 1 false (.fa v3 1),y 2 false (.ld l0 1 false),y 3 false (.ln l0),y 4 false (.bin .geq l3 l0),u (.pk l5 (.b true) l0)] [] 0 (.seq (.reg [w 4 (.mv (.i (-1)))] []) .ret) .skip) (.seq (.ite [f 1 v3,g l0,m v1,a 10 l1 l0,f 0 l0,g l0,m v2,u (.bin .eql l1 l0)] [] 0 (.seq (.reg [h 2 v3,m v1,u (.ca N.eV 0 [] [.l 1,.l 0,.b false]),w 4 (.mv l0)] []) .ret) .skip) (.seq (.ite [f 1 v3,g l0,m v1,a 10 l1 l0,f 1 l0,g l0,m v2,u (.bin .eql l1 l0)] [] 0 (.seq (.reg [h 2 v3,m v1,u (.ca N.eV 0 [] [.l 1,.l 0,.b true]),w 4 (.mv l0)] []) .ret) .skip) (.seq (.reg [w 4 (.mv (.i (-1)))] []) .ret))))),res:=[(4,none)]}
def bc:C:=(.its [u (.bin .lss v5 v4)] [] 0 .skip (.exit 0) (.seq (.blk 1 (.seq (.reg [m v5,w 3 (.mv l0)] []) (.ite [m v1,m v0,m v3,a 4 l1 l0,h 4 l0,u (.cw l4 0 [] [.l 0])] [] 0 (.seq (.reg [m v3,w 2 (.mv l0)] []) .ret) .skip))) (.reg [u (.bin .add v5 (.i 1)),w 5 (.mv l0)] [])))
def cI:C:= .loop true [2,3] K.bc
def aC:Fn:={ nargs:=2,vars:=[0,1,4,5,7,8],body:=(.seq (.reg [w 2 (.mv (.i 0))] []) (.seq (.seq (.reg [m v0,w 4 (.ln l0),w 5 (.mv (.i 0))] []) (.blk 0 K.cI)) (.seq (.reg [w 2 (.mv (.i (-1)))] []) .ret))),res:=[(2,none)]}
def bw:C:=(.its [u (.bin .lss v5 v4)] [] 0 .skip (.exit 0) (.seq (.blk 1 (.seq (.reg [m v5,w 3 (.mv l0)] []) (.ite [m v1,m v0,m v3,a 3 l1 l0,h 3 l0,u (.cw l4 0 [] [.l 0])] [] 0 (.seq (.reg [m v3,w 2 (.mv l0)] []) .ret) .skip))) (.reg [u (.bin .add v5 (.i 1)),w 5 (.mv l0)] [])))
def dh:C:= .loop true [2,3] K.bw
def aI:Fn:={ nargs:=2,vars:=[0,1,4,5,7,8],body:=(.seq (.reg [w 2 (.mv (.i 0))] []) (.seq (.seq (.reg [m v0,w 4 (.ln l0),w 5 (.mv (.i 0))] []) (.blk 0 K.dh)) (.seq (.reg [w 2 (.mv (.i (-1)))] []) .ret))),res:=[(2,none)]}
def gQ:C:=(.its [u (.bin .lss v8 v7)] [] 0 .skip (.exit 0) (.seq (.blk 1 (.seq (.reg [a 4 v6 v8,h 4 l0,w 4 (.al [.nil,.t (.int .i64 (0)),.t (.int .i64 (0)),.t (.int .i64 (0))] []),u (.st l0 l1 4 [])] []) (.seq (.reg [f 0 v4,g l0,u (.ca N.ay 0 [] [.l 0]),f 0 v4,u (.st l0 l1 1 [])] []) (.reg [f 5 v3,g l0,h 4 v4,u (.bs [.l 0] 4),u (.app l2 l0 true 4),f 5 v3,u (.st l0 l1 1 [])] [])))) (.reg [u (.bin .add v8 (.i 1)),w 8 (.mv l0)] [])))
def jO:C:= .loop true [0,4,5,9,10,11] K.gQ
def gR:C:=(.its [u (.bin .lss v11 v10)] [] 0 .skip (.exit 2) (.seq (.blk 3 (.seq (.reg [a 1 v9 v11,g l0,w 5 (.mv l0)] []) (.reg [f 8 v3,g l0,m v5,u (.ca N.ay 0 [] [.l 0]),u (.bs [.l 0] 1),u (.app l3 l0 true 1),f 8 v3,u (.st l0 l1 1 [])] [(1,4),(1,5)]))) (.reg [u (.bin .add v11 (.i 1)),w 11 (.mv l0)] [])))
def jP:C:= .loop true [0,1,4,5,6,7,8] K.gR
def ch:Fn:={ nargs:=1,vars:=[0,1,2,3,5,7,29,30,31,56,57,58],body:=(.seq (.reg [w 1 (.bx v0 9),w 2 (.al [.nil,.nil,.t (.int .i64 (0)),.nil,.nil,.nil,.nil,.nil,.nil] [])] []) (.seq (.reg [h 9 v1,w 3 (.al [.nil,.nil,.t (.int .i64 (0)),.nil,.nil,.nil,.nil,.nil,.nil] [(5,4),(8,1)]),u (.st l0 l1 9 [])] []) (.seq (.reg [f 0 v1,f 0 l0,g l0,u (.ca N.aG 0 [] [.l 0]),f 0 v1,f 1 l0,g l0,u (.ca N.aJ 0 [] [.l 0]),u (.bd [.nil,.nil] [(0,1,.l 4),(1,1,.l 0)]),f 0 v3,u (.st l0 l1 2 [])] [(6,0)]) (.seq (.reg [f 3 v1,g l0,u (.ca N.aq 1 [] [.l 0]),f 4 v1,g l0,u (.ca N.ay 0 [] [.l 0]),f 3 v3,u (.st l0 l4 1 []),f 4 v3,u (.st l0 l3 1 [])] [(4,0)]) (.seq (.reg [f 5 v3,u (.st l0 (.c (.nil)) 1 [(5,4)])] []) (.seq (.seq (.reg [f 5 v1,w 6 (.ld l0 1 false),w 7 (.ln l0),w 8 (.mv (.i 0))] []) (.blk 0 K.jO)) (.seq (.reg [f 6 v1,g l0,u (.ca N.ay 0 [] [.l 0]),f 7 v1,g l0,u (.ca N.ay 0 [] [.l 0]),f 6 v3,u (.st l0 l4 1 []),f 7 v3,u (.st l0 l3 1 [])] [(4,0)]) (.seq (.reg [f 8 v3,u (.st l0 (.c (.nil)) 1 [(8,1)])] []) (.seq (.seq (.reg [f 8 v1,w 9 (.ld l0 1 false),w 10 (.ln l0),w 11 (.mv (.i 0))] []) (.blk 2 K.jP)) (.seq (.reg [h 9 v3,u (.st v2 l0 9 [])] []) .ret)))))))))),res:=[(2,some (9,true))]}
def bM:C:=(.seq (.ite [m v4,f 5 v1,g l0,u (.ln l0),u (.bin .lss l3 l0)] [] 0 .skip (.exit 0)) (.seq (.blk 1 (.seq (.reg [f 5 v1,g l0,m v4,a 4 l1 l0,h 4 l0,w 5 (.al [.nil,.t (.int .i64 (0)),.t (.int .i64 (0)),.t (.int .i64 (0))] []),u (.st l0 l1 4 [])] []) (.seq (.reg [f 0 v5,g l0,u (.app (.c (.nil)) l0 false 1),f 0 v5,u (.st l0 l1 1 [])] []) (.reg [f 5 v3,g l0,h 4 v5,u (.bsr [.l 0] 4),u (.app l2 l0 false 4),f 5 v3,u (.st l0 l1 1 [])] [])))) (.reg [m v4,u (.bin .add l0 (.i 1)),w 4 (.mv l0)] [])))
def qv:C:= .loop false [0,5,6] K.bM
def bN:C:=(.seq (.ite [m v6,f 8 v1,g l0,u (.ln l0),u (.bin .lss l3 l0)] [] 0 .skip (.exit 2)) (.seq (.blk 3 (.reg [f 8 v3,g l0,f 8 v1,g l0,m v6,a 1 l1 l0,g l0,u (.app (.c (.nil)) l0 false 1),u (.bsr [.l 0] 1),u (.app l7 l0 false 1),f 8 v3,u (.st l0 l1 1 [])] [(1,8),(1,9)])) (.reg [m v6,u (.bin .add l0 (.i 1)),w 6 (.mv l0)] [])))
def qw:C:= .loop false [0,4,5] K.bN
def aW:Fn:={ nargs:=1,vars:=[0,1,2,3,4,5,6],body:=(.seq (.reg [w 1 (.bx v0 9),w 2 (.al [.nil,.nil,.t (.int .i64 (0)),.nil,.nil,.nil,.nil,.nil,.nil] [])] []) (.seq (.reg [w 3 (.al [.nil,.nil,.t (.int .i64 (0)),.nil,.nil,.nil,.nil,.nil,.nil] [(5,4),(8,1)]),f 0 v1,h 2 l0,u (.ca N.eX 0 [] [.l 0]),f 2 v1,g l0,f 3 v1,g l0,u (.app (.c (.nil)) l0 false 3),f 4 v1,g l0,u (.app (.c (.nil)) l0 false 1),f 6 v1,g l0,u (.app (.c (.nil)) l0 false 1),f 7 v1,g l0,u (.app (.c (.nil)) l0 false 1),u (.bd [.nil,.nil,.t (.int .i64 (0)),.nil,.nil,.nil,.nil,.nil,.nil] [(0,2,.l 14),(2,1,.l 12),(3,1,.l 9),(4,1,.l 6),(6,1,.l 3),(7,1,.l 0)]),u (.st (.l 18) l0 9 [(5,4),(8,1)])] [(0,4),(0,9),(0,12),(0,15),(0,18),(5,1),(5,9),(5,12),(5,15),(5,18),(7,1),(10,1),(10,4),(13,1),(13,4),(13,9),(16,1),(16,4),(16,9),(16,12)]) (.seq (.seq (.reg [w 4 (.mv (.i 0))] []) (.blk 0 K.qv)) (.seq (.seq (.reg [w 6 (.mv (.i 0))] []) (.blk 2 K.qw)) (.seq (.reg [h 9 v3,u (.st v2 l0 9 [])] []) .ret))))),res:=[(2,some (9,true))]}
def bG:C:=(.its [u (.bin .lss v8 v7)] [] 0 .skip (.exit 0) (.seq (.blk 1 (.seq (.reg [a 4 v6 v8,h 4 l0,w 4 (.al [.nil,.t (.int .i64 (0)),.t (.int .i64 (0)),.t (.int .i64 (0))] []),u (.st l0 l1 4 [])] []) (.seq (.reg [f 0 v4,g l0,u (.ca N.ay 0 [] [.l 0]),f 0 v4,u (.st l0 l1 1 [])] []) (.reg [f 5 v3,g l0,h 4 v4,u (.bsr [.l 0] 4),u (.app l2 l0 false 4),f 5 v3,u (.st l0 l1 1 [])] [])))) (.reg [u (.bin .add v8 (.i 1)),w 8 (.mv l0)] [])))
def oV:C:= .loop false [0,4,5,9,10,11] K.bG
def bH:C:=(.its [u (.bin .lss v11 v10)] [] 0 .skip (.exit 2) (.seq (.blk 3 (.seq (.reg [a 1 v9 v11,g l0,w 5 (.mv l0)] []) (.reg [f 8 v3,g l0,m v5,u (.ca N.ay 1 [] [.l 0]),u (.bsr [.l 0] 1),u (.app l3 l0 false 1),f 8 v3,u (.st l0 l1 1 [])] [(1,4),(1,5)]))) (.reg [u (.bin .add v11 (.i 1)),w 11 (.mv l0)] [])))
def oW:C:= .loop false [0,1,4,5,6,7,8] K.bH
def aX:Fn:={ nargs:=1,vars:=[0,1,2,3,5,7,29,30,31,56,57,58],body:=(.seq (.reg [w 1 (.bx v0 9),w 2 (.al [.nil,.nil,.t (.int .i64 (0)),.nil,.nil,.nil,.nil,.nil,.nil] [])] []) (.seq (.reg [h 9 v1,w 3 (.al [.nil,.nil,.t (.int .i64 (0)),.nil,.nil,.nil,.nil,.nil,.nil] [(5,4),(8,1)]),u (.st l0 l1 9 [])] []) (.seq (.reg [f 0 v1,f 0 l0,g l0,u (.ca N.aG 0 [] [.l 0]),f 0 v1,f 1 l0,g l0,u (.ca N.aJ 0 [] [.l 0]),u (.bd [.nil,.nil] [(0,1,.l 4),(1,1,.l 0)]),f 0 v3,u (.st l0 l1 2 [])] [(6,0)]) (.seq (.reg [f 3 v1,g l0,u (.ca N.aq 0 [] [.l 0]),f 4 v1,g l0,u (.ca N.ay 0 [] [.l 0]),f 3 v3,u (.st l0 l4 1 []),f 4 v3,u (.st l0 l3 1 [])] [(4,0)]) (.seq (.reg [f 5 v3,u (.st l0 (.c (.nil)) 1 [(5,4)])] []) (.seq (.seq (.reg [f 5 v1,w 6 (.ld l0 1 false),w 7 (.ln l0),w 8 (.mv (.i 0))] []) (.blk 0 K.oV)) (.seq (.reg [f 6 v1,g l0,u (.ca N.ay 1 [] [.l 0]),f 7 v1,g l0,u (.ca N.ay 1 [] [.l 0]),f 6 v3,u (.st l0 l4 1 []),f 7 v3,u (.st l0 l3 1 [])] [(4,0)]) (.seq (.reg [f 8 v3,u (.st l0 (.c (.nil)) 1 [(8,1)])] []) (.seq (.seq (.reg [f 8 v1,w 9 (.ld l0 1 false),w 10 (.ln l0),w 11 (.mv (.i 0))] []) (.blk 2 K.oW)) (.seq (.reg [h 9 v3,u (.st v2 l0 9 [])] []) .ret)))))))))),res:=[(2,some (9,true))]}
end Go.Ev.K
namespace Go.Ev
class ec [Lib]:Prop where
 gW:Lib.fs N.aU=some K.aU
 gS:Lib.fs N.bu=some K.bu
 bD:Lib.fs N.ao=some K.ao
 bQ:Lib.fs N.aq=some K.aq
 jv:Lib.fs N.cK=some K.cK
 bW:Lib.fs N.ax=some K.ax
 jw:Lib.fs N.cL=some K.cL
 jx:Lib.fs N.cZ=some K.cZ
 kQ:Lib.fs N.c7=some K.c7
 kR:Lib.fs N.cQ=some K.cQ
 iY:Lib.fs N.bC=some K.bC
 bJ:Lib.fs N.aC=some K.aC
 b9:Lib.fs N.aI=some K.aI
 iH:Lib.fs N.ch=some K.ch
 fg:Lib.fs N.aW=some K.aW
 fh:Lib.fs N.aX=some K.aX
namespace K
variable [Lib] [ec]
theorem gW:Lib.fs N.aU=some K.aU:=ec.gW
theorem gS:Lib.fs N.bu=some K.bu:=ec.gS
theorem bD:Lib.fs N.ao=some K.ao:=ec.bD
theorem bQ:Lib.fs N.aq=some K.aq:=ec.bQ
theorem jv:Lib.fs N.cK=some K.cK:=ec.jv
theorem bW:Lib.fs N.ax=some K.ax:=ec.bW
theorem jw:Lib.fs N.cL=some K.cL:=ec.jw
theorem jx:Lib.fs N.cZ=some K.cZ:=ec.jx
theorem kQ:Lib.fs N.c7=some K.c7:=ec.kQ
theorem kR:Lib.fs N.cQ=some K.cQ:=ec.kR
theorem iY:Lib.fs N.bC=some K.bC:=ec.iY
theorem bJ:Lib.fs N.aC=some K.aC:=ec.bJ
theorem b9:Lib.fs N.aI=some K.aI:=ec.b9
theorem iH:Lib.fs N.ch=some K.ch:=ec.iH
theorem fg:Lib.fs N.aW=some K.aW:=ec.fg
theorem fh:Lib.fs N.aX=some K.aX:=ec.fh
end K
end Go.Ev
namespace Go.Ev
open Go
variable [Lib] [bT] [bU] [dL] [dI] [fP] [dF] [dC] [eO] [eD] [cE] [cO] [ea] [eb] [fT] [fw] [fH] [dU] [ec]
structure Rdr where
 pl:List Int
 per:Int
 miss:Int
 skew:Int
instance : Dat Rdr := ⟨⟨[], 0, 0, 0⟩⟩
abbrev Rdr.e(r:Rdr):T:= .agg [tL r.pl,tI r.per,tI r.miss,tI r.skew]
structure Wlk where
 place:Int
 kT:Int
 left:Int
instance : Dat Wlk := ⟨⟨0, 0, 0⟩⟩
abbrev Wlk.e(w:Wlk):T:= .agg [tI w.place,tI w.kT,tI w.left]
structure Tru where
 gz:cJ
 time:Int
 people:List Wlk
 tags:List Int
 readers:List Rdr
 numbers:List Int
 looked:List Int
 missed:List (List Int)
abbrev tLL(l:List (List Int)):T:= .sl (l.map fun x=> .sl (x.map (T.int .i64)))
abbrev Tru.cs(x:Tru):List T:=[.sl (x.gz.places.map Place.e),.sl (x.gz.roads.map Road.e),tI x.time,.sl (x.people.map Wlk.e),tL x.tags,.sl (x.readers.map Rdr.e),tL x.numbers,tL x.looked,tLL x.missed]
abbrev Tru.e(x:Tru):T:= .agg x.cs
structure Tru.sz(x:Tru):Prop where
 a:x.gz.places.length≤1000000
 b:x.gz.roads.length≤1000000
 c:x.people.length≤1000000
 d:x.tags.length≤1000000
 r:x.readers.length≤1000000
 r2:∀y∈x.readers,y.pl.length≤1000000
 n:x.numbers.length≤1000000
 l:x.looked.length≤1000000
 m:x.missed.length≤1000000
 m2:∀y∈x.missed,y.length≤1000000
@[go_sem] theorem HH (l : List Rdr) : bP 4 (l.map Rdr.e) = true := gn 4 _ (fun _ => rfl) l
@[go_sem] theorem RF (l : List Rdr) : ja 4 (l.map Rdr.e) = true := by cases l <;> rfl
@[go_sem] theorem HI (l : List Wlk) : bP 3 (l.map Wlk.e) = true := gn 3 _ (fun _ => rfl) l
@[go_sem] theorem RG (l : List Wlk) : ja 3 (l.map Wlk.e) = true := by cases l <;> rfl
@[go_sem] theorem Lo (l : List (List Int)) : bP 1 (l.map fun x => T.sl (x.map (T.int .i64))) = true := gn 1 _ (fun _ => rfl) l
@[go_sem] theorem Uc (l : List (List Int)) : ja 1 (l.map fun x => T.sl (x.map (T.int .i64))) = true := by cases l <;> rfl
structure wD(n:Int)(r:Rdr):Prop where
 s:uW r.pl n=true
 l:r.pl.length≤64
 l1:1≤r.pl.length
 p1:1≤r.per
 p2:r.per≤30
 m1:0≤r.miss
 m2:r.miss≤2
 k1:0≤r.skew
 k2:r.skew≤5
abbrev rdH(e:aR)(m:cJ)(l:List Rdr):aj:=[e.obj,.box (aE m),.arr 4 false 0 ((l.map Rdr.e).map .t)]
def rdP(m:cJ)(n:Int)(j:Nat)(st:St):Prop:=∃(e:aR) (l:List Rdr),e.dk∧l.length=j∧(∀r∈l,wD m.places.length r)∧st=⟨[.bp 0 0,.und,.bp 1 0,.und,.ref 2 0 l.length,I (n-j),.und],rdH e m l⟩
theorem C1{p n:Int}(h0:0≤p)(h1:p<n):uW [p] n=true:=by
 unfold uW
 simp only[List.length_singleton,List.all_eq_true,List.mem_range,decide_eq_true_eq]
 intro j hj
 obtain rfl:j=0:=by omega
 exact⟨h0,h1,fun h=>by omega⟩
theorem wE{d:aR}(hd:d.dk){m:cJ}(hm:m.ok)(h1:1≤m.places.length){n:Int}(n0:0≤n)(n3:n≤3):∃(e:aR) (l:List Rdr),e.dk∧l.length≤3∧(∀r∈l,wD m.places.length r)∧
 ∀z1 z3 z6:D,exS aT K.i6 ⟨[.bp 0 0,z1,.bp 1 0,z3,.ref 2 0 0,I n,z6],rdH d m []⟩=some (.exit 0,⟨[.bp 0 0,.und,.bp 1 0,.und,.ref 2 0 l.length,I 0,.und],rdH e m l⟩):=by
 have np:=hm.np
 have key:=FI (gc:=true) (dead:=[1,3,6]) (c:=K.cq) (vs:=[.bp 0 0,.und,.bp 1 0,.und,.ref 2 0 0,I n,.und]) (H:=rdH d m [])
  (rdP m n) n.toNat (fun q=>∃(e:aR) (l:List Rdr),e.dk∧l.length=n.toNat∧(∀r∈l,wD m.places.length r)∧q=(.exit 0,⟨[.bp 0 0,.und,.bp 1 0,.und,.ref 2 0 l.length,I 0,.und],rdH e m l⟩))
  (by
   refine⟨d,[],hd,rfl,fun r hr=>(by cases hr),?_⟩
   simp only[cR,List.set_cons_zero,List.set_cons_succ,List.length_nil]
   rw[show n-((0:Nat):Int)=n by omega])
  (by
   rintro j st hj ⟨e,l,le,ll,lo,rfl⟩
   obtain⟨s,e1,s1,l1,sl,ss⟩:=RE le m.places.length (by omega)
   obtain⟨o,e2,o1,l2,oi⟩:=Kq l1 [9,29,4] (by simp) (by simp)
   obtain⟨k,e3,k1,l3,k0,k3⟩:=jn l2 3 (by omega) (by omega)
   obtain⟨w,e4,w1,l4,wi⟩:=Kq l3 [0,1,5] (by simp) (by simp)
   have ob:4≤o∧o≤29:=by simp at oi;omega
   have wb:0≤w∧w≤5:=by simp at wi;omega
   simp only[tL,List.map_cons,List.map_nil]at o1 w1
   by_cases c:s.length=0
   · obtain⟨p,e5,p1,l5,p0,p9⟩:=jn l4 m.places.length (by omega) (by omega)
     refine⟨_,?_,e5,l++[⟨[p],1+o,k,w⟩],l5,by simp[ll],fun r hr=>?_,rfl⟩
     · have s0:s=[]:=List.eq_nil_of_length_eq_zero c
       subst s0
       obtain⟨places,roads⟩:=m
       simp only[aE,rdH,List.map_nil,List.length_nil]at*
       rw[show n-((j+1:Nat):Int)=n-(j:Int)-1 by omega]
       simp (disch:=omega) only[go_sem,K.cq,↓reduceIte,s1,o1,k1,w1,p1,List.length_append,List.length_cons,List.length_nil,List.map_append,List.map_cons,List.map_nil,Nat.reduceAdd,Nat.reduceSub]
       rfl
     · rcases List.mem_append.1 hr with hr | hr
       · exact lo r hr
       · rw[List.mem_singleton.1 hr]
         exact⟨C1 p0 p9,by simp,by simp,by simp only;omega,by simp only;omega,k0,by simp only;omega,wb.1,wb.2⟩
   · refine⟨_,?_,e4,l++[⟨s,1+o,k,w⟩],l4,by simp[ll],fun r hr=>?_,rfl⟩
     · obtain⟨places,roads⟩:=m
       simp only[aE,rdH]at*
       rw[show n-((j+1:Nat):Int)=n-(j:Int)-1 by omega]
       simp (disch:=omega) only[go_sem,K.cq,↓reduceIte,s1,o1,k1,w1,c,List.length_append,List.length_cons,List.length_nil,List.map_append,List.map_cons,List.map_nil,Nat.reduceAdd,Nat.reduceSub]
     · rcases List.mem_append.1 hr with hr | hr
       · exact lo r hr
       · rw[List.mem_singleton.1 hr]
         exact⟨ss,by simp only;omega,by simp only;omega,by simp only;omega,by simp only;omega,k0,by simp only;omega,wb.1,wb.2⟩
   )
  (by
   rintro st ⟨e,l,le,ll,lo,rfl⟩
   refine⟨_,?_,?_,e,l,le,ll,lo,rfl⟩
   · rw[show n-(n.toNat:Int)=0 by omega]
     obtain⟨places,roads⟩:=m
     simp only[aE,rdH]
     simp (disch:=omega) only[go_sem,K.cq,↓reduceIte,Nat.reduceAdd,Nat.reduceSub]
   · simp)
 obtain⟨q,k1,e,l,k2,k3,k4,rfl⟩:=key
 refine⟨e,l,k2,by omega,k4,fun z1 z3 z6=>?_⟩
 have k1:j8 true [1,3,6] (exS aT K.cq) ⟨[.bp 0 0,.und,.bp 1 0,.und,.ref 2 0 0,I n,.und],rdH d m []⟩=_:=k1
 exact eW (gc:=true) (dead:=[1,3,6]) (c:=K.cq) (vs:=[.bp 0 0,z1,.bp 1 0,z3,.ref 2 0 0,I n,z6]) k1
theorem C2{d:aR}(hd:d.dk){m:cJ}(hm:m.ok)(h1:1≤m.places.length):∃(l:List Rdr) (e:aR),e.dk∧l.length≤3∧(∀r∈l,wD m.places.length r)∧
 aT 0 N.bE [.bp 0 0,.t m.e] [d.obj]=some (.t (.sl (l.map Rdr.e)),[e.obj])∧aT 1 N.bE [.bp 0 0,.t m.e] [d.obj]=some (.ref 1 0 l.length,[e.obj,.arr 4 false 0 ((l.map Rdr.e).map .t)]):=by
 obtain⟨n,e0,ne,l0,n0,n3⟩:=jn hd 4 (by omega) (by omega)
 obtain⟨e,l,le,ll,lo,lp⟩:=wE l0 hm h1 n0 (by omega)
 refine⟨l,e,le,ll,lo,?_,?_⟩
 · refine aB K.fy rfl ?_
   obtain⟨places,roads⟩:=m
   simp only[aE,rdH,List.map_nil]at*
   simp (disch:=omega) only[go_sem,K.bE,↓reduceIte,ne,lp,Nat.reduceAdd,Nat.reduceSub]
 · refine aB K.fy rfl ?_
   obtain⟨places,roads⟩:=m
   simp only[aE,rdH,List.map_nil]at*
   simp (disch:=omega) only[go_sem,K.bE,↓reduceIte,ne,lp,Nat.reduceAdd,Nat.reduceSub]
theorem uD(l:List Rdr)(hl:l.length≤4294967296)(f:Nat)(bs:List (List T))(p:Rdr→Bool)(h:∀x,x∈l→aT 0 f (.t x.e::eK bs.length) (aV bs)=some (B (p x),aV bs)):
 aT 0 N.aC [.t (.sl (l.map Rdr.e)),.fn f (eK bs.length)] (aV bs)=
 some (I (match (List.range l.length).find? (fun j=>p (nth l j))with | some j=>(j:Int) | none=> -1),aV bs):=by
 refine aB K.bJ rfl ?_
 have loop:∀a b:D,exS aT K.cI ⟨[.t (.sl (l.map Rdr.e)),.fn f (eK bs.length),a,b,I l.length,I 0],aV bs⟩=
  some (match (List.range l.length).find? (fun j=>p (nth l j))with
   | some j=>(.ret,⟨[.t (.sl (l.map Rdr.e)),.fn f (eK bs.length),I j,I j,I l.length,I j],aV bs⟩)
   | none=>(.exit 0,⟨[.t (.sl (l.map Rdr.e)),.fn f (eK bs.length),.und,.und,I l.length,I l.length],aV bs⟩)):=by
  intro a b
  refine gU (fun j=>⟨[.t (.sl (l.map Rdr.e)),.fn f (eK bs.length),.und,.und,I l.length,I j],aV bs⟩) l.length (fun j=>p (nth l j)) _ _ rfl ?_ ?_ ?_ (by simp)
  · intro j hj hp
    have hc:=je (h _ (bg hj)) rfl
    simp (disch:=omega) only[go_sem,K.bc,↓reduceIte,hc,hp]
  · intro j hj hp
    have hc:=je (h _ (bg hj)) rfl
    simp (disch:=omega) only[go_sem,K.bc,↓reduceIte,hp,hc]
    simp
  · simp (disch:=omega) only[go_sem,K.bc,↓reduceIte]
 simp (disch:=omega) only[go_sem,K.aC,↓reduceIte,loop]
 cases hf:(List.range l.length).find? (fun j=>p (nth l j))with
 | some j=>simp (disch:=omega) only[go_sem,↓reduceIte]
 | none=>simp (disch:=omega) only[go_sem,↓reduceIte]
theorem qx(l:List Rdr)(hl:l.length≤4294967296)(f:Nat)(bs:List (List T))(p:Rdr→Bool)(h:∀x,x∈l→aT 0 f (.t x.e::eK bs.length) (aV bs)=some (B (p x),aV bs)):
 aT 0 N.ao [.t (.sl (l.map Rdr.e)),.fn f (eK bs.length)] (aV bs)=some (B (l.any p),aV bs):=by
 refine aB K.bD rfl ?_
 have h:=uD l hl f bs p h
 have hc:=pA aT bs f _ 0 (.sl (l.map Rdr.e)) h rfl
 have e:=zv (l:=l) (p:=p)
 cases hf:(List.range l.length).find? (fun j=>p (nth l j))with
 | some j=>rw[hf]at e hc;simp (disch:=omega) only[go_sem,K.ao,↓reduceIte,←e,hc]
 | none=>rw[hf]at e hc;simp (disch:=omega) only[go_sem,K.ao,↓reduceIte,←e,hc,Option.isSome_none]
def zw(n:Int)(r:Rdr):Bool:= !(!decide (r.pl.length=0)&&uW r.pl n&&decide (1≤r.per∧r.per≤600)&&decide (0≤r.miss∧r.miss≤10)&&decide (0≤r.skew∧r.skew≤60))
def sU(m:cJ)(l:List Rdr):Bool:=decide (l.length≤32)&& !(l.any (zw m.places.length))
theorem Lp(m:cJ)(hp:m.places.length≤1000000)(r:Rdr)(hl:r.pl.length≤1000000):aT 0 N.bu [.t r.e,.bp 0 0] [.box (aE m)]=some (B (zw m.places.length r),[.box (aE m)]):=by
 refine aB K.gS rfl ?_
 have ri:=wj r.pl 0 ((m.places.length:Int)-1) (by omega)
 rw[Kn]at ri
 have i1:=hT r.per 1 600
 have i2:=hT r.miss 0 10
 have i3:=hT r.skew 0 60
 unfold zw
 generalize uW r.pl m.places.length=b0 at*
 obtain⟨pl,per,miss,skew⟩:=r
 obtain⟨places,roads⟩:=m
 simp only[aE]at*
 generalize decide (1≤per∧per≤600)=b1 at*
 generalize decide (0≤miss∧miss≤10)=b2 at*
 generalize decide (0≤skew∧skew≤60)=b3 at*
 by_cases c:pl.length=0
 · rw[c]
   simp (disch:=omega) only[go_sem,K.bu,↓reduceIte,c,decide_true,Bool.not_true,Bool.false_and,Bool.not_false,Nat.reduceAdd,Nat.reduceSub]
 · cases b0<;>cases b1<;>cases b2<;>cases b3
   all_goals simp (disch:=omega) only[go_sem,K.bu,↓reduceIte,c,ri,i1,i2,i3,decide_false,Bool.not_true,Bool.not_false,Bool.false_and,Bool.true_and,Bool.and_true,Bool.and_false,Bool.and_self,Nat.reduceAdd,Nat.reduceSub]
theorem Lq(m:cJ)(hp:m.places.length≤1000000)(l:List Rdr)(hl:l.length≤1000000)(h2:∀y∈l,y.pl.length≤1000000):aT 0 N.ao [.t (.sl (l.map Rdr.e)),.fn N.bu [.bp 0 0]] [.box (aE m)]=some (B (l.any (zw m.places.length)),[.box (aE m)]):=
 qx l (by omega) N.bu [[.sl (m.places.map Place.e),.sl (m.roads.map Road.e)]] (zw m.places.length) (fun x hx=>Lp m hp x (h2 x hx))
theorem Az{m:cJ}(hm:m.ok)(l:List Rdr)(hl:l.length≤1000000)(h2:∀y∈l,y.pl.length≤1000000):aT 0 N.bY [.t m.e,.t (.sl (l.map Rdr.e))] []=some (B (sU m l),[]):=by
 refine aB K.iG rfl ?_
 have cf:=Lq m (by have:=hm.np;omega) l hl h2
 have pv:=qf hm
 unfold sU
 generalize l.any (zw m.places.length)=b at*
 obtain⟨places,roads⟩:=m
 simp only[aE]at*
 by_cases c:l.length≤32
 · simp (disch:=omega) only[go_sem,K.bY,↓reduceIte,pv,cf,c,decide_true,Bool.true_and,Nat.reduceAdd,Nat.reduceSub]
 · simp (disch:=omega) only[go_sem,K.bY,↓reduceIte,pv,c,decide_false,Bool.false_and,Nat.reduceAdd,Nat.reduceSub]
theorem sq{m:cJ}(hm:m.ok)(l:List Rdr)(hl:l.length≤1000000)(h2:∀y∈l,y.pl.length≤1000000):aT 0 N.dj [.t m.e,.t (.sl (l.map Rdr.e))] []=some (B (sU m l),[]):=by
 refine aB K.kN rfl ?_
 have ck:=zf hm
 have np:=hm.np
 have nr:=hm.nr
 have lp:=fun z0 z3 z5:D=>oF (gc:=true) (dead:=[0,3,5]) (c:=K.bZ) (vs:=[z0,.t (.sl (l.map Rdr.e)),.bp 0 0,z3,I 0,z5]) (H:=[.box (aE m)])
  (fun j=>⟨[.und,.t (.sl (l.map Rdr.e)),.bp 0 0,.und,I j,.und],[.box (aE m)]⟩) l.length (fun j=>zw m.places.length (nth l j))
  (fun j=>(.ret,⟨[.und,.t (.sl (l.map Rdr.e)),.bp 0 0,B false,I j,.bp 1 0],[.box (aE m),.box [.t (tL (nth l j).pl),I (nth l j).per,I (nth l j).miss,I (nth l j).skew]]⟩))
  (.exit 0,⟨[.und,.t (.sl (l.map Rdr.e)),.bp 0 0,.und,I l.length,.und],[.box (aE m)]⟩) rfl
  (fun j hj hq=>by
   have ex:(l.map Rdr.e)[j]?=some (nth l j).e:=aD _ hj
   have st:=GU (nth l j).pl m.places.length (by have:=h2 _ (bg hj);omega)
   simp only[zw,Bool.not_eq_false',Bool.and_eq_true,Bool.not_eq_true',decide_eq_false_iff_not,decide_eq_true_eq]at hq
   obtain⟨⟨⟨⟨q0,q1⟩,q2⟩,q3⟩,q4⟩:=hq
   rw[q1]at st
   have:=h2 _ (bg hj)
   generalize nth l j=r at*
   obtain⟨pl,per,miss,skew⟩:=r
   simp only at*
   obtain⟨places,roads⟩:=m
   simp only[aE]at*
   simp (disch:=omega) only[go_sem,K.bZ,↓reduceIte,ex,st,q0,Nat.reduceAdd,Nat.reduceSub]
   )
  (fun j hj hq=>by
   have ex:(l.map Rdr.e)[j]?=some (nth l j).e:=aD _ hj
   have st:=GU (nth l j).pl m.places.length (by have:=h2 _ (bg hj);omega)
   have:=h2 _ (bg hj)
   unfold zw at hq
   generalize uW (nth l j).pl m.places.length=b0 at*
   generalize nth l j=r at*
   obtain⟨pl,per,miss,skew⟩:=r
   simp only at*
   obtain⟨places,roads⟩:=m
   simp only[aE]at*
   refine⟨?_,by simp⟩
   by_cases c:pl.length=0
   · simp (disch:=omega) only[go_sem,K.bZ,↓reduceIte,ex,c,Nat.reduceAdd,Nat.reduceSub]
   · cases b0 with
     | false=>simp (disch:=omega) only[go_sem,K.bZ,↓reduceIte,ex,st,c,Nat.reduceAdd,Nat.reduceSub]
     | true=>
       by_cases a0:1≤per
       · by_cases a1:per≤600
         · by_cases a2:0≤miss
           · by_cases a3:miss≤10
             · by_cases a4:0≤skew
               · by_cases a5:skew≤60
                 · exact absurd hq (by simp[c,a0,a1,a2,a3,a4,a5])
                 · simp (disch:=omega) only[go_sem,K.bZ,↓reduceIte,ex,st,c,a0,a1,a2,a3,a4,a5,Nat.reduceAdd,Nat.reduceSub]
               · simp (disch:=omega) only[go_sem,K.bZ,↓reduceIte,ex,st,c,a0,a1,a2,a3,a4,Nat.reduceAdd,Nat.reduceSub]
             · simp (disch:=omega) only[go_sem,K.bZ,↓reduceIte,ex,st,c,a0,a1,a2,a3,Nat.reduceAdd,Nat.reduceSub]
           · simp (disch:=omega) only[go_sem,K.bZ,↓reduceIte,ex,st,c,a0,a1,a2,Nat.reduceAdd,Nat.reduceSub]
         · simp (disch:=omega) only[go_sem,K.bZ,↓reduceIte,ex,st,c,a0,a1,Nat.reduceAdd,Nat.reduceSub]
       · simp (disch:=omega) only[go_sem,K.bZ,↓reduceIte,ex,st,c,a0,Nat.reduceAdd,Nat.reduceSub]
   )
  (by
   obtain⟨places,roads⟩:=m
   simp only[aE]
   simp (disch:=omega) only[go_sem,K.bZ,↓reduceIte,Nat.reduceAdd,Nat.reduceSub]
   ) (by simp)
 have lp2:∀z0 z3 z5:D,exS aT K.mW _=_:=lp
 clear lp
 unfold sU
 rw[← Cf l (zw m.places.length)]
 cases hq:(List.range l.length).any (fun j=>zw m.places.length (nth l j))with
 | true=>
   rw[hq]at lp2
   simp only[if_true]at lp2
   generalize rW l.length (fun j=>zw m.places.length (nth l j))=j at*
   obtain⟨places,roads⟩:=m
   simp only[aE,Bool.not_true,Bool.and_false]at*
   simp (disch:=omega) only[go_sem,K.dj,↓reduceIte,lp2,Nat.reduceAdd,Nat.reduceSub]
 | false=>
   rw[hq]at lp2
   simp only[Bool.false_eq_true,if_false]at lp2
   obtain⟨places,roads⟩:=m
   simp only[aE,Bool.not_false,Bool.and_true]at*
   by_cases c:l.length≤32
   · simp (disch:=omega) only[go_sem,K.dj,↓reduceIte,lp2,ck,c,decide_true,Nat.reduceAdd,Nat.reduceSub]
   · simp (disch:=omega) only[go_sem,K.dj,↓reduceIte,lp2,ck,c,decide_false,Nat.reduceAdd,Nat.reduceSub]
theorem AA(l:List Int)(hl:l.length≤1000000):aT 0 N.dt [.t (tL l)] []=some (B (ft l),[]):=by
 refine aB K.jX rfl ?_
 have v:=CP l
 have s:=CQ l hl
 have r:=wj (fZ l) 1 65535 (by rw[eZ];omega)
 rw[Aw]at r
 simp (disch:=omega) only[go_sem,K.dt,↓reduceIte,v,s,r,Nat.reduceAdd,Nat.reduceSub]
def Ou(l:List Int)(j:Nat):Bool:=decide (nth l j<1∨65535<nth l j∨nth l j∈l.take j)
theorem AB(l:List Int):(!(List.range l.length).any (Ou l))=ft l:=by
 rw[Bool.eq_iff_iff,nL]
 simp only[Bool.not_eq_true',List.any_eq_false,List.mem_range,Ou,decide_eq_true_eq,not_or,Int.not_lt]
 constructor
 · intro h
   refine⟨?_,fun x hx=>?_⟩
   · rw[List.Nodup,List.pairwise_iff_getElem]
     intro i j hi hj hij e
     have:=(h j hj).2.2
     apply this
     rw[dR (List.getElem?_eq_getElem hj),←e]
     exact List.mem_of_getElem? (show(l.take j)[i]?=some l[i]by rw[List.getElem?_take,if_pos hij];exact List.getElem?_eq_getElem hi)
   · obtain⟨j,hj,rfl⟩:=List.getElem_of_mem hx
     have:=h j hj
     rw[dR (List.getElem?_eq_getElem hj)]at this
     exact⟨this.1,this.2.1⟩
 · rintro ⟨h1,h2⟩ j hj
   have:=h2 _ (bg hj)
   refine⟨this.1,this.2,fun hm=>?_⟩
   obtain⟨i,hi⟩:=List.mem_iff_getElem?.1 hm
   have il:=(List.getElem?_eq_some_iff.1 hi).1
   rw[List.length_take]at il
   rw[List.getElem?_take,if_pos (by omega)]at hi
   have:=List.pairwise_iff_getElem.1 h1 i j (by omega) hj (by omega)
   apply this
   have a:=dR hi
   rw[dR (List.getElem?_eq_getElem (by omega:i<l.length))]at a
   rw[a,dR (List.getElem?_eq_getElem hj)]
theorem sr(l:List Int)(hl:l.length≤1000000):aT 0 N.cy [.t (tL l)] []=some (B (ft l),[]):=by
 refine aB K.iX rfl ?_
 rw[← AB]
 have lp:=fun z1:D=>oF (gc:=true) (dead:=[1]) (c:=K.c8) (vs:=[.t (tL l),z1,I 0]) (H:=[])
  (fun j=>⟨[.t (tL l),.und,I j],[]⟩) l.length (Ou l) (fun j=>(.ret,⟨[.t (tL l),B false,I j],[]⟩)) (.exit 0,⟨[.t (tL l),.und,I l.length],[]⟩) rfl
  (fun j hj hq=>by
   have h:=qd (l.take j) (nth l j) (by rw[List.length_take];omega)
   have tk:(l.map (T.int .i64)).take j=(l.take j).map (T.int .i64):=(List.map_take ..).symm
   unfold Ou at hq
   have hq:=of_decide_eq_false hq
   have c3:¬nth l j∈l.take j:=fun x=>hq (.inr (.inr x))
   rw[decide_eq_false c3]at h
   simp (disch:=omega) only[go_sem,K.c8,↓reduceIte,h,tk,Nat.reduceAdd,Nat.reduceSub]
   )
  (fun j hj hq=>by
   have h:=qd (l.take j) (nth l j) (by rw[List.length_take];omega)
   have tk:(l.map (T.int .i64)).take j=(l.take j).map (T.int .i64):=(List.map_take ..).symm
   unfold Ou at hq
   have hq:=of_decide_eq_true hq
   refine⟨?_,by simp⟩
   by_cases c1:nth l j<1
   · simp (disch:=omega) only[go_sem,K.c8,↓reduceIte,c1,Nat.reduceAdd,Nat.reduceSub]
   · by_cases c2:65535<nth l j
     · simp (disch:=omega) only[go_sem,K.c8,↓reduceIte,c1,c2,Nat.reduceAdd,Nat.reduceSub]
     · have c3:nth l j∈l.take j:=by
        rcases hq with a | a | a
        · omega
        · omega
        · exact a
       rw[decide_eq_true c3]at h
       simp (disch:=omega) only[go_sem,K.c8,↓reduceIte,c1,c2,h,tk,Nat.reduceAdd,Nat.reduceSub]
   )
  (by simp (disch:=omega) only[go_sem,K.c8,↓reduceIte,Nat.reduceAdd,Nat.reduceSub]
   ) (by simp)
 have lp2:∀z1:D,exS aT K.kj _=_:=lp
 clear lp
 cases hq:(List.range l.length).any (Ou l)with
 | true=>
   rw[hq]at lp2
   simp only[if_true]at lp2
   simp (disch:=omega) only[go_sem,K.cy,↓reduceIte,lp2,Bool.not_true,Nat.reduceAdd,Nat.reduceSub]
 | false=>
   rw[hq]at lp2
   simp only[Bool.false_eq_true,if_false]at lp2
   simp (disch:=omega) only[go_sem,K.cy,↓reduceIte,lp2,Bool.not_false,Nat.reduceAdd,Nat.reduceSub]
theorem kS(l:List Road)(hl:l.length≤1000000):aT 0 N.aJ [.t (.sl (l.map Road.e))] []=some (.t (.sl (l.map Road.e)),[]):=by
 refine aB K.dg rfl ?_
 by_cases h0:l=[]
 · subst h0
   simp only[List.map_nil]
   simp (disch:=omega) only[go_sem,K.aJ,↓reduceIte,List.map_nil,Nat.reduceAdd,Nat.reduceSub]
 · have e:=fun H=>mw H (l.map Road.e) (by simpa using h0)
   simp (disch:=omega) only[go_sem,K.aJ,↓reduceIte,e,Nat.reduceAdd,Nat.reduceSub]
theorem nN(l:List Wlk)(hl:l.length≤1000000):aT 0 N.aq [.t (.sl (l.map Wlk.e))] []=some (.t (.sl (l.map Wlk.e)),[]):=by
 refine aB K.bQ rfl ?_
 by_cases h0:l=[]
 · subst h0
   simp only[List.map_nil]
   simp (disch:=omega) only[go_sem,K.aq,↓reduceIte,List.map_nil,Nat.reduceAdd,Nat.reduceSub]
 · have e:=fun H=>mw H (l.map Wlk.e) (by simpa using h0)
   simp (disch:=omega) only[go_sem,K.aq,↓reduceIte,e,Nat.reduceAdd,Nat.reduceSub]
theorem yi(l:List Wlk)(hl:l.length≤1000000):aT 1 N.aq [.t (.sl (l.map Wlk.e))] []=some (.ref 0 0 l.length,[.arr 3 false 0 ((l.map Wlk.e).map .t)]):=by
 refine aB K.bQ rfl ?_
 by_cases h0:l=[]
 · subst h0
   simp only[List.map_nil]
   simp (disch:=omega) only[go_sem,K.aq,↓reduceIte,List.map_nil,List.length_nil,Nat.reduceAdd,Nat.reduceSub]
 · have e:=fun H=>mw H (l.map Wlk.e) (by simpa using h0)
   simp (disch:=omega) only[go_sem,K.aq,↓reduceIte,e,Nat.reduceAdd,Nat.reduceSub]
abbrev ae:List D:=[.nil,.nil,I 0,.nil,.nil,.nil,.nil,.nil,.nil]
abbrev LLe(x:List Int):T:= .sl (x.map (T.int .i64))
theorem gX(m:cJ)(hp:m.places.length≤1000000)(hr:m.roads.length≤1000000):aT 0 N.eX [.t m.e] []=some (.t m.e,[]):=by
 refine aB K.lQ rfl ?_
 obtain⟨places,roads⟩:=m
 simp only at*
 simp (disch:=omega) only[go_sem,K.eX,↓reduceIte,Nat.reduceAdd,Nat.reduceSub]
abbrev tcH(x:Tru)(a b:Nat)(ra:List Rdr)(rb:List (List Int)):aj:=[.box (x.cs.map .t),.box ae,.box [.t (.sl (x.gz.places.map Place.e)),.t (.sl (x.gz.roads.map Road.e)),I x.time,.ref 5 0 x.people.length,.ref 6 0 x.tags.length,.ref 9 0 a,.ref 7 0 x.numbers.length,.ref 8 0 x.looked.length,.ref 10 0 b],.arr 4 false 0 [],.arr 1 false 0 [],.arr 3 false 0 ((x.people.map Wlk.e).map .t),.arr 1 false 0 ((x.tags.map (T.int .i64)).map .t),.arr 1 false 0 ((x.numbers.map (T.int .i64)).map .t),.arr 1 false 0 ((x.looked.map (T.int .i64)).map .t),.arr 4 false 0 ((ra.map Rdr.e).map .t),.arr 1 false 0 ((rb.map LLe).map .t)]
theorem fB(x:Tru)(h:x.sz):aT 0 N.de [.t x.e] []=some (.t x.e,[]):=by
 refine aB K.jN rfl ?_
 obtain⟨a,b,c,d,r,r2,n,l,m,m2⟩:=h
 have c1:=gX x.gz a b
 have tk1:x.readers.take x.readers.length=x.readers:=List.take_length
 have tk2:x.missed.take x.missed.length=x.missed:=List.take_length
 have lp1:∀z0 z5 z6:D,exS aT K.kL ⟨[z0,.bp 0 0,.bp 1 0,.bp 2 0,I 0,z5,z6],tcH x 0 0 [] []⟩=
  some (.exit 0,⟨[.und,.bp 0 0,.bp 1 0,.bp 2 0,I x.readers.length,.und,.und],tcH x x.readers.length 0 x.readers []⟩):=by
  intro z0 z5 z6
  refine bV (fun j=>⟨[.und,.bp 0 0,.bp 1 0,.bp 2 0,I j,.und,.und],tcH x (x.readers.take j).length 0 (x.readers.take j) []⟩) x.readers.length rfl ?_ ?_ (by simp)
  · intro j hj
    have ex:(x.readers.map Rdr.e)[j]?=some (nth x.readers j).e:=aD _ hj
    have tk:=jJ hj
    have tl:(x.readers.take j).length=j:=by rw[List.length_take];omega
    have tl2:(x.readers.take (j+1)).length=j+1:=by rw[List.length_take];omega
    have yl:=r2 _ (bg hj)
    rw[tl2,tk]
    generalize x.readers.take j=q at*
    generalize nth x.readers j=y at*
    obtain⟨⟨places,roads⟩,time,people,tags,readers,numbers,looked,missed⟩:=x
    obtain⟨pl,per,miss,skew⟩:=y
    simp only[tcH,Tru.cs,ae,List.map_cons,List.map_nil,tL]at*
    simp (disch:=omega) only[go_sem,K.gI,↓reduceIte,ex,tl,List.map_append,List.map_cons,List.map_nil,Nat.reduceAdd,Nat.reduceSub]
  · rw[tk1]
    obtain⟨⟨places,roads⟩,time,people,tags,readers,numbers,looked,missed⟩:=x
    simp only[tcH,Tru.cs,ae,List.map_cons,List.map_nil]at*
    simp (disch:=omega) only[go_sem,K.gI,↓reduceIte,Nat.reduceAdd,Nat.reduceSub]
 have lp2:∀z0 z4 z5:D,exS aT K.kM ⟨[z0,.bp 0 0,.bp 1 0,.bp 2 0,z4,z5,I 0],tcH x x.readers.length 0 x.readers []⟩=
  some (.exit 2,⟨[.und,.bp 0 0,.bp 1 0,.bp 2 0,.und,.und,I x.missed.length],tcH x x.readers.length x.missed.length x.readers x.missed⟩):=by
  intro z0 z4 z5
  refine bV (fun j=>⟨[.und,.bp 0 0,.bp 1 0,.bp 2 0,.und,.und,I j],tcH x x.readers.length (x.missed.take j).length x.readers (x.missed.take j)⟩) x.missed.length rfl ?_ ?_ (by simp)
  · intro j hj
    have ex:(x.missed.map fun x=>T.sl (x.map (T.int .i64)))[j]?=some (LLe (nth x.missed j)):=aD _ hj
    have tk:=jJ hj
    have tl:(x.missed.take j).length=j:=by rw[List.length_take];omega
    have tl2:(x.missed.take (j+1)).length=j+1:=by rw[List.length_take];omega
    have yl:=m2 _ (bg hj)
    rw[tl2,tk]
    generalize x.missed.take j=q at*
    generalize nth x.missed j=y at*
    obtain⟨⟨places,roads⟩,time,people,tags,readers,numbers,looked,missed⟩:=x
    simp only[tcH,Tru.cs,ae,List.map_cons,List.map_nil,tL,LLe]at*
    simp (disch:=omega) only[go_sem,K.gJ,↓reduceIte,ex,tl,List.map_append,List.map_cons,List.map_nil,Nat.reduceAdd,Nat.reduceSub]
  · rw[tk2]
    obtain⟨⟨places,roads⟩,time,people,tags,readers,numbers,looked,missed⟩:=x
    simp only[tcH,Tru.cs,ae,List.map_cons,List.map_nil]at*
    simp (disch:=omega) only[go_sem,K.gJ,↓reduceIte,Nat.reduceAdd,Nat.reduceSub]
 obtain⟨⟨places,roads⟩,time,people,tags,readers,numbers,looked,missed⟩:=x
 simp only[tcH,Tru.e,Tru.cs,ae,List.map_cons,List.map_nil,LLe,tL]at*
 simp (disch:=omega) only[go_sem,K.de,↓reduceIte,c1,lp1,lp2,Nat.reduceAdd,Nat.reduceSub]
def gy(m:cJ)(r p:Int):Int:=
 if 0≤r∧r<m.roads.length then
  if(nth m.roads r.toNat).frm=p then iM m r.toNat false 6 9 12
  else if(nth m.roads r.toNat).to=p then iM m r.toNat true 6 9 12 else -1
 else -1
theorem tP{m:cJ}(h:m.ok)(r p:Int): -1≤gy m r p∧gy m r p≤1000012:=by
 unfold gy
 by_cases c:0≤r∧r<m.roads.length
 · rw[if_pos c]
   split
   · exact zg h _ (by omega) _
   · split
     · exact zg h _ (by omega) _
     · omega
 · rw[if_neg c];omega
theorem su{m:cJ}(h:m.ok)(r p:Int):aT 0 N.bC [.t m.e,I r,I p] []=some (I (gy m r p),[]):=by
 refine aB K.iY rfl ?_
 have nr:=h.nr
 unfold gy
 by_cases c0:0≤r
 · obtain⟨k,rfl⟩:=Int.eq_ofNat_of_zero_le c0
   by_cases c1:k<m.roads.length
   · rw[if_pos ⟨c0,by omega⟩]
     have e:Int.toNat (k:Int)=k:=rfl
     simp only[Int.ofNat_eq_natCast,e]at*
     have ex:(m.roads.map Road.e)[k]?=some (nth m.roads k).e:=aD _ c1
     have t1:=Cj h k c1 false
     have t2:=Cj h k c1 true
     generalize iM m k false 6 9 12=a at*
     generalize iM m k true 6 9 12=b at*
     generalize nth m.roads k=q at*
     obtain⟨places,roads⟩:=m
     obtain⟨q1,q2,q3,q4,q5,q6,q7,q8,q9,q10⟩:=q
     simp only at*
     by_cases d1:q1=p
     · simp (disch:=omega) only[go_sem,K.bC,↓reduceIte,ex,t1,d1,Nat.reduceAdd,Nat.reduceSub]
     · by_cases d2:q2=p
       · simp (disch:=omega) only[go_sem,K.bC,↓reduceIte,ex,t2,d1,d2,Nat.reduceAdd,Nat.reduceSub]
       · simp (disch:=omega) only[go_sem,K.bC,↓reduceIte,ex,d1,d2,Nat.reduceAdd,Nat.reduceSub]
   · rw[if_neg (by omega)]
     obtain⟨places,roads⟩:=m
     simp only[Int.ofNat_eq_natCast]at*
     simp (disch:=omega) only[go_sem,K.bC,↓reduceIte,Nat.reduceAdd,Nat.reduceSub]
 · rw[if_neg (by omega)]
   obtain⟨places,roads⟩:=m
   simp only at*
   simp (disch:=omega) only[go_sem,K.bC,↓reduceIte,Nat.reduceAdd,Nat.reduceSub]
theorem iJ(x:Tru)(h:x.sz)(i:Int):aT 0 N.cQ [.t x.e,I i] []=some (B (decide (0≤i∧i<x.people.length)),[]):=by
 refine aB K.kR rfl ?_
 obtain⟨a,b,c,d,r,r2,n,l,m,m2⟩:=h
 obtain⟨⟨places,roads⟩,time,people,tags,readers,numbers,looked,missed⟩:=x
 simp only[Tru.e,Tru.cs,List.map_cons,List.map_nil,LLe,tL]at*
 by_cases c0:0≤i
 · by_cases c1:i<people.length
   · simp (disch:=omega) only[go_sem,K.cQ,↓reduceIte,c0,c1,decide_true,and_self,Nat.reduceAdd,Nat.reduceSub]
   · simp (disch:=omega) only[go_sem,K.cQ,↓reduceIte,c0,c1,decide_false,and_false,Nat.reduceAdd,Nat.reduceSub]
 · simp (disch:=omega) only[go_sem,K.cQ,↓reduceIte,c0,decide_false,false_and,Nat.reduceAdd,Nat.reduceSub]
def Wlk.ok(m:cJ)(w:Wlk):Prop:=(0≤w.place∧w.place<m.places.length)∧(w.kT= -1∧w.left=0∨0≤w.kT∧0≤gy m w.kT w.place∧1≤w.left∧w.left≤2147483648)
structure Tru.ok(x:Tru):Prop where
 m:x.gz.ok
 m1:1≤x.gz.places.length
 rl:x.readers.length≤3
 r:∀r∈x.readers,wD x.gz.places.length r
 n1:1≤x.people.length
 n3:x.people.length≤3
 w:∀w∈x.people,w.ok x.gz
 tl:x.tags.length=x.people.length
 tp:ft x.tags=true
 t0:0≤x.time
 t1:x.time≤2147483648
 nl:x.numbers.length=x.readers.length
 ll:x.looked.length=x.readers.length
 ml:x.missed.length=x.readers.length
 nb:∀j,j<x.readers.length→(-1≤nth x.numbers j∧nth x.numbers j≤65535)∧(-1≤nth x.looked j∧nth x.looked j≤x.time)∧(nth x.looked j= -1↔nth x.numbers j= -1)
 m2:∀j,j<x.readers.length→(nth x.missed j).length=x.people.length
 mb:∀j,j<x.readers.length→∀i,i<x.people.length→0≤nth (nth x.missed j) i∧nth (nth x.missed j) i≤(nth x.readers j).miss
theorem Tru.ok.sz{x:Tru}(h:x.ok):x.sz:=by
 have:=h.m.np
 have:=h.m.nr
 have:=h.rl
 have:=h.n3
 have:=h.tl
 have:=h.nl
 have:=h.ll
 have:=h.ml
 refine⟨by omega,by omega,by omega,by omega,by omega,fun y hy=>?_,by omega,by omega,by omega,fun y hy=>?_⟩
 · have:=(h.r y hy).l;omega
 · obtain⟨j,hj,rfl⟩:=List.getElem_of_mem hy
   have:=h.m2 j (by omega)
   rw[dR (List.getElem?_eq_getElem hj)]at this
   omega
theorem wD.odd{n:Nat}{r:Rdr}(h:wD n r):zw n r=false:=by
 obtain⟨s,l,l1,p1,p2,m1,m2,k1,k2⟩:=h
 unfold zw
 rw[s,decide_eq_false (by omega),decide_eq_true (by omega),decide_eq_true (by omega),decide_eq_true (by omega)]
 rfl
theorem Tru.ok.Xa{x:Tru}(h:x.ok):sU x.gz x.readers=true:=by
 have:=h.rl
 unfold sU
 rw[decide_eq_true (by omega),Bool.true_and,Bool.not_eq_true',List.any_eq_false]
 intro r hr
 rw[(h.r r hr).odd]
 decide
theorem dV{x:Tru}(h:x.ok):aT 0 N.c7 [.t x.e] []=some (B true,[]):=by
 refine aB K.kQ rfl ?_
 have sz:=h.sz
 have rv:=sq h.m x.readers sz.r sz.r2
 rw[h.Xa]at rv
 have ds:=sr x.tags sz.d
 rw[h.tp]at ds
 obtain⟨hm,hm1,hrl,hr,n1,n3,hw,tl,tp,t0,t1,nl,ll,ml,nb,m2,mb⟩:=h
 have np:=hm.np
 have lp1:∀z0 z2 z5 z6 z7 z8:D,exS aT K.mZ ⟨[z0,.bp 0 0,z2,I x.people.length,I 0,z5,z6,z7,z8],[.box (x.cs.map .t)]⟩=
  some (.exit 0,⟨[.und,.bp 0 0,.und,I x.people.length,I x.people.length,.und,.und,.und,.und],[.box (x.cs.map .t)]⟩):=by
  intro z0 z2 z5 z6 z7 z8
  refine bV (fun j=>⟨[.und,.bp 0 0,.und,I x.people.length,I j,.und,.und,.und,.und],[.box (x.cs.map .t)]⟩) x.people.length rfl ?_ ?_ (by simp)
  · intro j hj
    have ex:(x.people.map Wlk.e)[j]?=some (nth x.people j).e:=aD _ hj
    have wo:=hw _ (bg hj)
    have lv:=fun r p=>su hm r p
    generalize nth x.people j=y at*
    obtain⟨⟨places,roads⟩,time,people,tags,readers,numbers,looked,missed⟩:=x
    obtain⟨p1,p2,p3⟩:=y
    obtain⟨⟨w0,w1⟩,⟨w2,w3⟩ | ⟨w2,w3,w4,w5⟩⟩:=wo
    · simp only[Tru.cs,List.map_cons,List.map_nil,tL]at*
      simp (disch:=omega) only[go_sem,K.ir,↓reduceIte,ex,w2,w3,Nat.reduceAdd,Nat.reduceSub]
    · simp only[Tru.cs,List.map_cons,List.map_nil,tL]at*
      simp (disch:=omega) only[go_sem,K.ir,↓reduceIte,ex,lv,Nat.reduceAdd,Nat.reduceSub]
  · obtain⟨⟨places,roads⟩,time,people,tags,readers,numbers,looked,missed⟩:=x
    simp only[Tru.cs,List.map_cons,List.map_nil,tL]at*
    simp (disch:=omega) only[go_sem,K.ir,↓reduceIte,Nat.reduceAdd,Nat.reduceSub]
 have lp2:∀z0 z2 z4 z5 z8:D,exS aT K.m6 ⟨[z0,.bp 0 0,z2,I x.people.length,z4,z5,I x.readers.length,I 0,z8],[.box (x.cs.map .t)]⟩=
  some (.exit 2,⟨[.und,.bp 0 0,.und,I x.people.length,.und,.und,I x.readers.length,I x.readers.length,.und],[.box (x.cs.map .t)]⟩):=by
  intro z0 z2 z4 z5 z8
  refine bV (fun k=>⟨[.und,.bp 0 0,.und,I x.people.length,.und,.und,I x.readers.length,I k,.und],[.box (x.cs.map .t)]⟩) x.readers.length rfl ?_ ?_ (by simp)
  · intro k hk
    have nbk:=nb k hk
    have m2k:=m2 k hk
    have mbk:=mb k hk
    have ek:(x.missed.map fun x=>T.sl (x.map (T.int .i64)))[k]?=some (LLe (nth x.missed k)):=aD _ (by omega)
    have er:(x.readers.map Rdr.e)[k]?=some (nth x.readers k).e:=aD _ hk
    have en:(x.numbers.map (T.int .i64))[k]?=some (tI (nth x.numbers k)):=aD _ (by omega)
    have el:(x.looked.map (T.int .i64))[k]?=some (tI (nth x.looked k)):=aD _ (by omega)
    generalize nth x.missed k=mk at*
    generalize nth x.readers k=rk at*
    generalize nth x.numbers k=nk at*
    generalize nth x.looked k=lk at*
    have lp3:∀z0 z2 z4 z5:D,exS aT K.m5 ⟨[z0,.bp 0 0,z2,I x.people.length,z4,z5,I x.readers.length,I k,I 0],[.box (x.cs.map .t)]⟩=
     some (.exit 4,⟨[.und,.bp 0 0,.und,I x.people.length,.und,.und,I x.readers.length,I k,I x.people.length],[.box (x.cs.map .t)]⟩):=by
     intro z0 z2 z4 z5
     refine bV (fun j=>⟨[.und,.bp 0 0,.und,I x.people.length,.und,.und,I x.readers.length,I k,I j],[.box (x.cs.map .t)]⟩) x.people.length rfl ?_ ?_ (by simp)
     · intro j hj
       have ei:(mk.map (T.int .i64))[j]?=some (tI (nth mk j)):=aD _ (by omega)
       obtain⟨b1,b2⟩:=mbk j hj
       generalize nth mk j=y at*
       obtain⟨⟨places,roads⟩,time,people,tags,readers,numbers,looked,missed⟩:=x
       obtain⟨r1,r2,r3,r4⟩:=rk
       simp only[Tru.cs,List.map_cons,List.map_nil,tL,LLe]at*
       simp (disch:=omega) only[go_sem,K.ju,↓reduceIte,ek,er,ei,Nat.reduceAdd,Nat.reduceSub]
     · obtain⟨⟨places,roads⟩,time,people,tags,readers,numbers,looked,missed⟩:=x
       simp only[Tru.cs,List.map_cons,List.map_nil,tL]at*
       simp (disch:=omega) only[go_sem,K.ju,↓reduceIte,Nat.reduceAdd,Nat.reduceSub]
    have dq:decide (lk= -1)=decide (nk= -1):=decide_eq_decide.2 nbk.2.2
    obtain⟨⟨places,roads⟩,time,people,tags,readers,numbers,looked,missed⟩:=x
    obtain⟨r1,r2,r3,r4⟩:=rk
    simp only[Tru.cs,List.map_cons,List.map_nil,tL,LLe]at*
    by_cases cc:nk= -1
    · have cl:lk= -1:=nbk.2.2.2 cc
      subst cc cl
      simp (disch:=omega) only[go_sem,K.iu,↓reduceIte,ek,er,en,el,m2k,lp3,Nat.reduceAdd,Nat.reduceSub]
    · have cl:¬lk= -1:=fun e=>cc (nbk.2.2.1 e)
      simp (disch:=omega) only[go_sem,K.iu,↓reduceIte,ek,er,en,el,m2k,lp3,cc,cl,Nat.reduceAdd,Nat.reduceSub]
  · obtain⟨⟨places,roads⟩,time,people,tags,readers,numbers,looked,missed⟩:=x
    simp only[Tru.cs,List.map_cons,List.map_nil,tL]at*
    simp (disch:=omega) only[go_sem,K.iu,↓reduceIte,Nat.reduceAdd,Nat.reduceSub]
 obtain⟨⟨places,roads⟩,time,people,tags,readers,numbers,looked,missed⟩:=x
 simp only[Tru.e,Tru.cs,List.map_cons,List.map_nil,tL]at*
 simp (disch:=omega) only[go_sem,K.c7,↓reduceIte,rv,ds,lp1,lp2,Nat.reduceAdd,Nat.reduceSub]
theorem sV(l:List Wlk)(hl:l.length≤4294967296)(f:Nat)(bs:List (List T))(p:Wlk→Bool)(h:∀x,x∈l→aT 0 f (.t x.e::eK bs.length) (aV bs)=some (B (p x),aV bs)):
 aT 0 N.aI [.t (.sl (l.map Wlk.e)),.fn f (eK bs.length)] (aV bs)=
 some (I (match (List.range l.length).find? (fun j=>p (nth l j))with | some j=>(j:Int) | none=> -1),aV bs):=by
 refine aB K.b9 rfl ?_
 have loop:∀a b:D,exS aT K.dh ⟨[.t (.sl (l.map Wlk.e)),.fn f (eK bs.length),a,b,I l.length,I 0],aV bs⟩=
  some (match (List.range l.length).find? (fun j=>p (nth l j))with
   | some j=>(.ret,⟨[.t (.sl (l.map Wlk.e)),.fn f (eK bs.length),I j,I j,I l.length,I j],aV bs⟩)
   | none=>(.exit 0,⟨[.t (.sl (l.map Wlk.e)),.fn f (eK bs.length),.und,.und,I l.length,I l.length],aV bs⟩)):=by
  intro a b
  refine gU (fun j=>⟨[.t (.sl (l.map Wlk.e)),.fn f (eK bs.length),.und,.und,I l.length,I j],aV bs⟩) l.length (fun j=>p (nth l j)) _ _ rfl ?_ ?_ ?_ (by simp)
  · intro j hj hp
    have hc:=je (h _ (bg hj)) rfl
    simp (disch:=omega) only[go_sem,K.bw,↓reduceIte,hc,hp]
  · intro j hj hp
    have hc:=je (h _ (bg hj)) rfl
    simp (disch:=omega) only[go_sem,K.bw,↓reduceIte,hp,hc]
    simp
  · simp (disch:=omega) only[go_sem,K.bw,↓reduceIte]
 simp (disch:=omega) only[go_sem,K.aI,↓reduceIte,loop]
 cases hf:(List.range l.length).find? (fun j=>p (nth l j))with
 | some j=>simp (disch:=omega) only[go_sem,↓reduceIte]
 | none=>simp (disch:=omega) only[go_sem,↓reduceIte]
theorem pF(l:List Wlk)(hl:l.length≤4294967296)(f:Nat)(bs:List (List T))(p:Wlk→Bool)(h:∀x,x∈l→aT 0 f (.t x.e::eK bs.length) (aV bs)=some (B (p x),aV bs)):
 aT 0 N.ax [.t (.sl (l.map Wlk.e)),.fn f (eK bs.length)] (aV bs)=some (B (l.any p),aV bs):=by
 refine aB K.bW rfl ?_
 have h:=sV l hl f bs p h
 have hc:=pA aT bs f _ 0 (.sl (l.map Wlk.e)) h rfl
 have e:=zv (l:=l) (p:=p)
 cases hf:(List.range l.length).find? (fun j=>p (nth l j))with
 | some j=>rw[hf]at e hc;simp (disch:=omega) only[go_sem,K.ax,↓reduceIte,←e,hc]
 | none=>rw[hf]at e hc;simp (disch:=omega) only[go_sem,K.ax,↓reduceIte,←e,hc,Option.isSome_none]
theorem C3{m:cJ}(h:m.ok)(r p:Int):aT 0 N.cg [.t m.e,I r,I p] []=some (I (gy m r p),[]):=by
 refine aB K.jY rfl ?_
 have nr:=h.nr
 have li:=hT r 0 ((m.roads.length:Int)-1)
 unfold gy
 by_cases c0:0≤r
 · obtain⟨k,rfl⟩:=Int.eq_ofNat_of_zero_le c0
   by_cases c1:k<m.roads.length
   · rw[if_pos ⟨c0,by omega⟩]
     rw[decide_eq_true (by omega)]at li
     have e:Int.toNat (k:Int)=k:=rfl
     simp only[Int.ofNat_eq_natCast,e]at*
     have ex:(m.roads.map Road.e)[k]?=some (nth m.roads k).e:=aD _ c1
     have t1:=zo h k c1 false
     have t2:=zo h k c1 true
     generalize iM m k false 6 9 12=a at*
     generalize iM m k true 6 9 12=b at*
     generalize nth m.roads k=q at*
     obtain⟨places,roads⟩:=m
     obtain⟨q1,q2,q3,q4,q5,q6,q7,q8,q9,q10⟩:=q
     simp only at*
     by_cases d1:p=q1
     · have d1':q1=p:=d1.symm
       rw[if_pos d1']
       clear d1'
       subst d1
       simp (disch:=omega) only[go_sem,K.cg,↓reduceIte,li,ex,t1,Nat.reduceAdd,Nat.reduceSub]
     · have d1':¬q1=p:=fun e=>d1 e.symm
       by_cases d2:p=q2
       · have d2':q2=p:=d2.symm
         rw[if_neg d1',if_pos d2']
         clear d1' d2'
         subst d2
         simp (disch:=omega) only[go_sem,K.cg,↓reduceIte,li,ex,t2,d1,Nat.reduceAdd,Nat.reduceSub]
       · have d2':¬q2=p:=fun e=>d2 e.symm
         simp (disch:=omega) only[go_sem,K.cg,↓reduceIte,li,ex,d1,d2,d1',d2',Nat.reduceAdd,Nat.reduceSub]
   · rw[if_neg (by omega)]
     rw[decide_eq_false (by omega)]at li
     obtain⟨places,roads⟩:=m
     simp only[Int.ofNat_eq_natCast]at*
     simp (disch:=omega) only[go_sem,K.cg,↓reduceIte,li,Nat.reduceAdd,Nat.reduceSub]
 · rw[if_neg (by omega)]
   rw[decide_eq_false (by omega)]at li
   obtain⟨places,roads⟩:=m
   simp only at*
   simp (disch:=omega) only[go_sem,K.cg,↓reduceIte,li,Nat.reduceAdd,Nat.reduceSub]
theorem AD{m:cJ}(h:m.ok){w:Wlk}(hw:w.ok m):aT 0 N.cZ [.t m.e,.t w.e] []=some (B true,[]):=by
 refine aB K.jx rfl ?_
 have np:=h.np
 obtain⟨p1,p2,p3⟩:=w
 obtain⟨⟨w0,w1⟩,w2⟩:=hw
 have l1:=hT p1 0 ((m.places.length:Int)-1)
 have l2:=hT p3 1 2147483648
 have lv:=C3 h p2 p1
 simp only at*
 rw[decide_eq_true (by omega)]at l1
 generalize gy m p2 p1=v at*
 obtain⟨places,roads⟩:=m
 simp only at*
 rcases w2 with⟨w2,w3⟩ | ⟨w2,w3,w4,w5⟩
 · simp (disch:=omega) only[go_sem,K.cZ,↓reduceIte,l1,w2,w3,Nat.reduceAdd,Nat.reduceSub]
 · rw[decide_eq_true (by omega)]at l2
   simp (disch:=omega) only[go_sem,K.cZ,↓reduceIte,l1,lv,l2,Nat.reduceAdd,Nat.reduceSub]
theorem RH{x:Tru}(h:x.gz.ok){w:Wlk}(hw:w.ok x.gz):aT 0 N.cL [.t w.e,.bp 0 0] [.box (x.cs.map .t)]=some (B false,[.box (x.cs.map .t)]):=by
 refine aB K.jw rfl ?_
 have wk:=AD h hw
 obtain⟨⟨places,roads⟩,time,people,tags,readers,numbers,looked,missed⟩:=x
 obtain⟨p1,p2,p3⟩:=w
 simp only[Tru.cs,List.map_cons,List.map_nil,tL]at*
 simp (disch:=omega) only[go_sem,K.cL,↓reduceIte,wk,Nat.reduceAdd,Nat.reduceSub]
theorem RI{x:Tru}(h:x.sz)(k:Nat)(hk:k<x.readers.length)(c:Int):aT 0 N.cK [I c,.bp 0 0,.bp 1 0] [.box (x.cs.map .t),.box [I k]]=some (B (!decide (0≤c∧c≤(nth x.readers k).miss)),[.box (x.cs.map .t),.box [I k]]):=by
 refine aB K.jv rfl ?_
 have:=h.r
 have li:=hT c 0 (nth x.readers k).miss
 have er:(x.readers.map Rdr.e)[k]?=some (nth x.readers k).e:=aD _ hk
 generalize nth x.readers k=y at*
 obtain⟨⟨places,roads⟩,time,people,tags,readers,numbers,looked,missed⟩:=x
 obtain⟨r1,r2,r3,r4⟩:=y
 simp only[Tru.cs,List.map_cons,List.map_nil,tL]at*
 simp (disch:=omega) only[go_sem,K.cK,↓reduceIte,er,li,Nat.reduceAdd,Nat.reduceSub]
theorem jy{x:Tru}(h:x.ok):aT 0 N.dD [.t x.e] []=some (B true,[]):=by
 refine aB K.kO rfl ?_
 have sz:=h.sz
 have sv:=Az h.m x.readers sz.r sz.r2
 rw[h.Xa]at sv
 have tg:=AA x.tags sz.d
 rw[h.tp]at tg
 have cf2:aT 0 N.ax [.t (.sl (x.people.map Wlk.e)),.fn N.cL [.bp 0 0]] [.box (x.cs.map .t)]=some (B (x.people.any fun _=>false),[.box (x.cs.map .t)]):=pF x.people (by have:=sz.c;omega) N.cL [x.cs] (fun _=>false) (fun w hw=>RH h.m (h.w w hw))
 have cf1:∀(k:Nat) (hk:k<x.readers.length),aT 0 N.aO [.t (tL (nth x.missed k)),.fn N.cK [.bp 0 0,.bp 1 0]] [.box (x.cs.map .t),.box [I k]]=some (B ((nth x.missed k).any fun c=> !decide (0≤c∧c≤(nth x.readers k).miss)),[.box (x.cs.map .t),.box [I k]]):=fun(k:Nat) (hk:k<x.readers.length)=>rY (nth x.missed k) (by have:=h.m2 k hk;have:=h.n3;omega) N.cK [x.cs,[tI k]] (fun c=> !decide (0≤c∧c≤(nth x.readers k).miss)) (fun c _=>RI sz k hk c)
 have cf0:∀(k:Nat) (hk:k<x.readers.length),(nth x.missed k).any (fun c=> !decide (0≤c∧c≤(nth x.readers k).miss))=false:=by
  intro k hk
  rw[List.any_eq_false]
  intro c hc
  obtain⟨i,hi,rfl⟩:=List.getElem_of_mem hc
  have:=h.mb k hk i (by have:=h.m2 k hk;omega)
  rw[dR (List.getElem?_eq_getElem hi)]at this
  rw[decide_eq_true this];decide
 have li1:=hT x.people.length 1 12
 have li2:=hT x.time 0 2147483648
 obtain⟨hm,hm1,hrl,hr,n1,n3,hw,tl,tp,t0,t1,nl,ll,ml,nb,m2,mb⟩:=h
 rw[decide_eq_true (by omega)]at li1 li2
 have af:x.people.any (fun _=>false)=false:=by simp
 rw[af]at cf2
 have lp1:∀z0 z2 z4 z5:D,exS aT K.mX ⟨[z0,.bp 0 0,z2,I x.people.length,z4,z5,I x.readers.length,I 0],[.box (x.cs.map .t)]⟩=
  some (.exit 0,⟨[.und,.bp 0 0,.und,I x.people.length,.und,.und,I x.readers.length,I x.readers.length],[.box (x.cs.map .t)]⟩):=by
  intro z0 z2 z4 z5
  refine bV (fun k=>⟨[.und,.bp 0 0,.und,I x.people.length,.und,.und,I x.readers.length,I k],[.box (x.cs.map .t)]⟩) x.readers.length rfl ?_ ?_ (by simp)
  · intro k hk
    have nbk:=nb k hk
    have m2k:=m2 k hk
    have cf1:=cf1 k hk
    rw[cf0 k hk]at cf1
    have ek:(x.missed.map fun x=>T.sl (x.map (T.int .i64)))[k]?=some (LLe (nth x.missed k)):=aD _ (by omega)
    have en:(x.numbers.map (T.int .i64))[k]?=some (tI (nth x.numbers k)):=aD _ (by omega)
    have el:(x.looked.map (T.int .i64))[k]?=some (tI (nth x.looked k)):=aD _ (by omega)
    generalize nth x.missed k=mk at*
    generalize nth x.numbers k=nk at*
    generalize nth x.looked k=lk at*
    have i1:=hT nk (-1) 65535
    have i2:=hT lk (-1) x.time
    rw[decide_eq_true (by omega)]at i1 i2
    obtain⟨⟨places,roads⟩,time,people,tags,readers,numbers,looked,missed⟩:=x
    simp only[Tru.cs,List.map_cons,List.map_nil,tL,LLe]at*
    by_cases cc:nk= -1
    · have cl:lk= -1:=nbk.2.2.2 cc
      subst cc cl
      simp (disch:=omega) only[go_sem,K.iq,↓reduceIte,ek,en,el,m2k,i1,i2,cf1,Nat.reduceAdd,Nat.reduceSub]
    · have cl:¬lk= -1:=fun e=>cc (nbk.2.2.1 e)
      simp (disch:=omega) only[go_sem,K.iq,↓reduceIte,ek,en,el,m2k,i1,i2,cf1,cc,cl,Nat.reduceAdd,Nat.reduceSub]
  · obtain⟨⟨places,roads⟩,time,people,tags,readers,numbers,looked,missed⟩:=x
    simp only[Tru.cs,List.map_cons,List.map_nil,tL]at*
    simp (disch:=omega) only[go_sem,K.iq,↓reduceIte,Nat.reduceAdd,Nat.reduceSub]
 obtain⟨⟨places,roads⟩,time,people,tags,readers,numbers,looked,missed⟩:=x
 simp only[Tru.e,Tru.cs,List.map_cons,List.map_nil,tL]at*
 simp (disch:=omega) only[go_sem,K.dD,↓reduceIte,sv,tg,cf2,li1,li2,nl,ll,ml,tl,lp1,Nat.reduceAdd,Nat.reduceSub]
abbrev az(s:Nat)(x:Tru):List D:=[.t (.sl (x.gz.places.map Place.e)),.t (.sl (x.gz.roads.map Road.e)),I x.time,.ref s 0 x.people.length,.ref (s+1) 0 x.tags.length,.ref (s+2) 0 x.readers.length,.ref (s+3) 0 x.numbers.length,.ref (s+4) 0 x.looked.length,.ref (s+5) 0 x.missed.length]
abbrev dE(s:Nat)(x:Tru):D:= .agg (az s x)
abbrev dW(x:Tru):aj:=[.arr 3 false 0 ((x.people.map Wlk.e).map .t),.arr 1 false 0 ((x.tags.map (T.int .i64)).map .t),.arr 4 false 0 ((x.readers.map Rdr.e).map .t),.arr 1 false 0 ((x.numbers.map (T.int .i64)).map .t),.arr 1 false 0 ((x.looked.map (T.int .i64)).map .t),.arr 1 false 0 ((x.missed.map LLe).map .t)]
theorem nO(x:Tru)(h:x.sz):aT 1 N.de [.t x.e] []=some (dE 0 x,dW x):=by
 refine aB K.jN rfl ?_
 obtain⟨a,b,c,d,r,r2,n,l,m,m2⟩:=h
 have c1:=gX x.gz a b
 have tk1:x.readers.take x.readers.length=x.readers:=List.take_length
 have tk2:x.missed.take x.missed.length=x.missed:=List.take_length
 have lp1:∀z0 z5 z6:D,exS aT K.kL ⟨[z0,.bp 0 0,.bp 1 0,.bp 2 0,I 0,z5,z6],tcH x 0 0 [] []⟩=
  some (.exit 0,⟨[.und,.bp 0 0,.bp 1 0,.bp 2 0,I x.readers.length,.und,.und],tcH x x.readers.length 0 x.readers []⟩):=by
  intro z0 z5 z6
  refine bV (fun j=>⟨[.und,.bp 0 0,.bp 1 0,.bp 2 0,I j,.und,.und],tcH x (x.readers.take j).length 0 (x.readers.take j) []⟩) x.readers.length rfl ?_ ?_ (by simp)
  · intro j hj
    have ex:(x.readers.map Rdr.e)[j]?=some (nth x.readers j).e:=aD _ hj
    have tk:=jJ hj
    have tl:(x.readers.take j).length=j:=by rw[List.length_take];omega
    have tl2:(x.readers.take (j+1)).length=j+1:=by rw[List.length_take];omega
    have yl:=r2 _ (bg hj)
    rw[tl2,tk]
    generalize x.readers.take j=q at*
    generalize nth x.readers j=y at*
    obtain⟨⟨places,roads⟩,time,people,tags,readers,numbers,looked,missed⟩:=x
    obtain⟨pl,per,miss,skew⟩:=y
    simp only[tcH,Tru.cs,ae,List.map_cons,List.map_nil,tL]at*
    simp (disch:=omega) only[go_sem,K.gI,↓reduceIte,ex,tl,List.map_append,List.map_cons,List.map_nil,Nat.reduceAdd,Nat.reduceSub]
  · rw[tk1]
    obtain⟨⟨places,roads⟩,time,people,tags,readers,numbers,looked,missed⟩:=x
    simp only[tcH,Tru.cs,ae,List.map_cons,List.map_nil]at*
    simp (disch:=omega) only[go_sem,K.gI,↓reduceIte,Nat.reduceAdd,Nat.reduceSub]
 have lp2:∀z0 z4 z5:D,exS aT K.kM ⟨[z0,.bp 0 0,.bp 1 0,.bp 2 0,z4,z5,I 0],tcH x x.readers.length 0 x.readers []⟩=
  some (.exit 2,⟨[.und,.bp 0 0,.bp 1 0,.bp 2 0,.und,.und,I x.missed.length],tcH x x.readers.length x.missed.length x.readers x.missed⟩):=by
  intro z0 z4 z5
  refine bV (fun j=>⟨[.und,.bp 0 0,.bp 1 0,.bp 2 0,.und,.und,I j],tcH x x.readers.length (x.missed.take j).length x.readers (x.missed.take j)⟩) x.missed.length rfl ?_ ?_ (by simp)
  · intro j hj
    have ex:(x.missed.map fun x=>T.sl (x.map (T.int .i64)))[j]?=some (LLe (nth x.missed j)):=aD _ hj
    have tk:=jJ hj
    have tl:(x.missed.take j).length=j:=by rw[List.length_take];omega
    have tl2:(x.missed.take (j+1)).length=j+1:=by rw[List.length_take];omega
    have yl:=m2 _ (bg hj)
    rw[tl2,tk]
    generalize x.missed.take j=q at*
    generalize nth x.missed j=y at*
    obtain⟨⟨places,roads⟩,time,people,tags,readers,numbers,looked,missed⟩:=x
    simp only[tcH,Tru.cs,ae,List.map_cons,List.map_nil,tL,LLe]at*
    simp (disch:=omega) only[go_sem,K.gJ,↓reduceIte,ex,tl,List.map_append,List.map_cons,List.map_nil,Nat.reduceAdd,Nat.reduceSub]
  · rw[tk2]
    obtain⟨⟨places,roads⟩,time,people,tags,readers,numbers,looked,missed⟩:=x
    simp only[tcH,Tru.cs,ae,List.map_cons,List.map_nil]at*
    simp (disch:=omega) only[go_sem,K.gJ,↓reduceIte,Nat.reduceAdd,Nat.reduceSub]
 obtain⟨⟨places,roads⟩,time,people,tags,readers,numbers,looked,missed⟩:=x
 simp only[dE,az,dW,tcH,Tru.e,Tru.cs,ae,List.map_cons,List.map_nil,LLe,tL]at*
 simp (disch:=omega) only[go_sem,K.de,↓reduceIte,c1,lp1,lp2,Nat.reduceAdd,Nat.reduceSub]
abbrev wF(s:Nat)(x:Tru):List D:=[.t (.sl (x.gz.places.map Place.e)),.t (.sl (x.gz.roads.map Road.e)),I x.time,.ref s 0 x.people.length,.t (tL x.tags),.ref (s+1) 0 x.readers.length,.t (tL x.numbers),.t (tL x.looked),.ref (s+2) 0 x.missed.length]
abbrev C4(s:Nat)(x:Tru):D:= .agg (wF s x)
abbrev wG(x:Tru):aj:=[.arr 3 false 0 ((x.people.map Wlk.e).map .t),.arr 4 false 0 ((x.readers.map Rdr.e).map .t),.arr 1 false 0 ((x.missed.map LLe).map .t)]
theorem yj(x:Tru)(h:x.sz):aT 1 N.ch [.t x.e] []=some (C4 0 x,wG x):=by
 refine aB K.iH rfl ?_
 obtain⟨a,b,c,d,r,r2,n,l,m,m2⟩:=h
 obtain⟨⟨places,roads⟩,time,people,tags,readers,numbers,looked,missed⟩:=x
 simp only at*
 have c1:=mB places a
 have c2:=kS roads b
 have c3:=yi people c
 have c4:=eE tags d
 have c5:=eE numbers n
 have c6:=eE looked l
 simp only[tL]at c4 c5 c6
 have tk1:readers.take readers.length=readers:=List.take_length
 have tk2:missed.take missed.length=missed:=List.take_length
 have lp1:∀z0 z4 z5 z9_ z10 z11:D,exS aT K.jO ⟨[z0,.bp 0 0,.bp 1 0,.bp 2 0,z4,z5,.t (.sl (readers.map Rdr.e)),I readers.length,I 0,z9_,z10,z11],[.box ((Tru.cs ⟨⟨places,roads⟩,time,people,tags,readers,numbers,looked,missed⟩).map .t),.box ae,.box [.t (.sl (places.map Place.e)),.t (.sl (roads.map Road.e)),I time,.ref 5 0 people.length,.t (tL tags),.ref 6 0 0,.t (tL numbers),.t (tL looked),.t (tLL missed)],.arr 4 false 0 [],.arr 1 false 0 [],.arr 3 false 0 ((people.map Wlk.e).map .t),.arr 4 false 0 []]⟩=
  some (.exit 0,⟨[.und,.bp 0 0,.bp 1 0,.bp 2 0,.und,.und,.t (.sl (readers.map Rdr.e)),I readers.length,I readers.length,.und,.und,.und],[.box ((Tru.cs ⟨⟨places,roads⟩,time,people,tags,readers,numbers,looked,missed⟩).map .t),.box ae,.box [.t (.sl (places.map Place.e)),.t (.sl (roads.map Road.e)),I time,.ref 5 0 people.length,.t (tL tags),.ref 6 0 readers.length,.t (tL numbers),.t (tL looked),.t (tLL missed)],.arr 4 false 0 [],.arr 1 false 0 [],.arr 3 false 0 ((people.map Wlk.e).map .t),.arr 4 false 0 ((readers.map Rdr.e).map .t)]⟩):=by
  intro z0 z4 z5 z9_ z10 z11
  refine bV (fun j=>⟨[.und,.bp 0 0,.bp 1 0,.bp 2 0,.und,.und,.t (.sl (readers.map Rdr.e)),I readers.length,I j,.und,.und,.und],[.box ((Tru.cs ⟨⟨places,roads⟩,time,people,tags,readers,numbers,looked,missed⟩).map .t),.box ae,.box [.t (.sl (places.map Place.e)),.t (.sl (roads.map Road.e)),I time,.ref 5 0 people.length,.t (tL tags),.ref 6 0 (readers.take j).length,.t (tL numbers),.t (tL looked),.t (tLL missed)],.arr 4 false 0 [],.arr 1 false 0 [],.arr 3 false 0 ((people.map Wlk.e).map .t),.arr 4 false 0 (((readers.take j).map Rdr.e).map .t)]⟩) readers.length rfl ?_ ?_ (by simp)
  · intro j hj
    have ex:(readers.map Rdr.e)[j]?=some (nth readers j).e:=aD _ hj
    have cl:=eE (nth readers j).pl (r2 _ (bg hj))
    have tk:=jJ hj
    have tl:(readers.take j).length=j:=by rw[List.length_take];omega
    have tl2:(readers.take (j+1)).length=j+1:=by rw[List.length_take];omega
    rw[tl2,tk]
    generalize readers.take j=q at*
    generalize nth readers j=y at*
    obtain⟨pl,per,miss,skew⟩:=y
    simp only[Tru.cs,ae,List.map_cons,List.map_nil,tL]at*
    simp (disch:=omega) only[go_sem,K.gQ,↓reduceIte,ex,cl,tl,List.map_append,List.map_cons,List.map_nil,Nat.reduceAdd,Nat.reduceSub]
  · rw[tk1]
    simp only[Tru.cs,ae,List.map_cons,List.map_nil]
    simp (disch:=omega) only[go_sem,K.gQ,↓reduceIte,Nat.reduceAdd,Nat.reduceSub]
 have lp2:∀z0 z1 z4 z5 z6 z7 z8:D,∀X:List D,exS aT K.jP ⟨[z0,z1,.bp 1 0,.bp 2 0,z4,z5,z6,z7,z8,.t (tLL missed),I missed.length,I 0],[.box ((Tru.cs ⟨⟨places,roads⟩,time,people,tags,readers,numbers,looked,missed⟩).map .t),.box ae,.box [.t (.sl (places.map Place.e)),.t (.sl (roads.map Road.e)),I time,.ref 5 0 people.length,.t (tL tags),.ref 6 0 readers.length,.t (tL numbers),.t (tL looked),.ref 7 0 0],.arr 4 false 0 [],.arr 1 false 0 [],.arr 3 false 0 ((people.map Wlk.e).map .t),.arr 4 false 0 ((readers.map Rdr.e).map .t),.arr 1 false 0 []]⟩=
  some (.exit 2,⟨[.und,.und,.bp 1 0,.bp 2 0,.und,.und,.und,.und,.und,.t (tLL missed),I missed.length,I missed.length],[.box ((Tru.cs ⟨⟨places,roads⟩,time,people,tags,readers,numbers,looked,missed⟩).map .t),.box ae,.box [.t (.sl (places.map Place.e)),.t (.sl (roads.map Road.e)),I time,.ref 5 0 people.length,.t (tL tags),.ref 6 0 readers.length,.t (tL numbers),.t (tL looked),.ref 7 0 missed.length],.arr 4 false 0 [],.arr 1 false 0 [],.arr 3 false 0 ((people.map Wlk.e).map .t),.arr 4 false 0 ((readers.map Rdr.e).map .t),.arr 1 false 0 ((missed.map LLe).map .t)]⟩):=by
  intro z0 z1 z4 z5 z6 z7 z8 X
  refine bV (fun j=>⟨[.und,.und,.bp 1 0,.bp 2 0,.und,.und,.und,.und,.und,.t (tLL missed),I missed.length,I j],[.box ((Tru.cs ⟨⟨places,roads⟩,time,people,tags,readers,numbers,looked,missed⟩).map .t),.box ae,.box [.t (.sl (places.map Place.e)),.t (.sl (roads.map Road.e)),I time,.ref 5 0 people.length,.t (tL tags),.ref 6 0 readers.length,.t (tL numbers),.t (tL looked),.ref 7 0 (missed.take j).length],.arr 4 false 0 [],.arr 1 false 0 [],.arr 3 false 0 ((people.map Wlk.e).map .t),.arr 4 false 0 ((readers.map Rdr.e).map .t),.arr 1 false 0 (((missed.take j).map LLe).map .t)]⟩) missed.length rfl ?_ ?_ (by simp)
  · intro j hj
    have ex:(missed.map fun x=>T.sl (x.map (T.int .i64)))[j]?=some (LLe (nth missed j)):=aD _ hj
    have cl:=eE (nth missed j) (m2 _ (bg hj))
    have tk:=jJ hj
    have tl:(missed.take j).length=j:=by rw[List.length_take];omega
    have tl2:(missed.take (j+1)).length=j+1:=by rw[List.length_take];omega
    rw[tl2,tk]
    generalize missed.take j=q at*
    generalize nth missed j=y at*
    simp only[Tru.cs,ae,List.map_cons,List.map_nil,tL,LLe]at*
    simp (disch:=omega) only[go_sem,K.gR,↓reduceIte,ex,cl,tl,List.map_append,List.map_cons,List.map_nil,Nat.reduceAdd,Nat.reduceSub]
  · rw[tk2]
    simp only[Tru.cs,ae,List.map_cons,List.map_nil]
    simp (disch:=omega) only[go_sem,K.gR,↓reduceIte,Nat.reduceAdd,Nat.reduceSub]
 have lp2:=fun z0 z1 z4 z5 z6 z7 z8=>lp2 z0 z1 z4 z5 z6 z7 z8 []
 simp only[C4,wF,wG,Tru.e,Tru.cs,ae,List.map_cons,List.map_nil,LLe,tL]at*
 simp (disch:=omega) only[go_sem,K.ch,↓reduceIte,c1,c2,c3,c4,c5,c6,lp1,lp2,Nat.reduceAdd,Nat.reduceSub]
def jz(x:Tru)(i:Nat)(w:Wlk):Tru:={ x with people:=x.people.set i w}
theorem yk(q:List Wlk)(k:Nat)(a b c:Int):(((q.map Wlk.e).map D.t).set k (.t (.agg [tI a,tI b,tI c])))=(((q.set k ⟨a,b,c⟩).map Wlk.e).map D.t):=by
 rw[List.map_set,List.map_set]
theorem C5(q:List Wlk)(k:Nat)(hk:k<q.length)(w:Wlk):(((q.set k w).map Wlk.e).map D.t)[k]?=some (.t w.e):=by
 rw[List.getElem?_map,List.getElem?_map,List.getElem?_set_self hk];rfl
def wH(x:Tru)(i:Int):Tru×Int:=
 if 0≤i∧i<x.people.length then
  if(nth x.people i.toNat).kT= -1 then(x,10)else(jz x i.toNat ⟨(nth x.people i.toNat).place, -1,0⟩,0)
 else(x,19)
theorem FU{x:Tru}(h:x.ok)(i:Int):aT 0 N.ez [.t x.e,I i] []=some (.tup [.t (wH x i).1.e,I (wH x i).2],[]):=by
 refine aB K.ma rfl ?_
 have sz:=h.sz
 have cp:=nO x sz
 have va:=dV h
 have th:=iJ x sz i
 have n3:=h.n3
 unfold wH
 by_cases c:0≤i∧i<x.people.length
 · rw[if_pos c]
   rw[decide_eq_true c]at th
   obtain⟨k,rfl⟩:=Int.eq_ofNat_of_zero_le c.1
   have ck:k<x.people.length:=by omega
   simp only[Int.ofNat_eq_natCast,Int.toNat_natCast]at*
   have ex:(x.people.map Wlk.e)[k]?=some (nth x.people k).e:=aD _ ck
   unfold jz
   have g1:=C5 x.people k ck
   have sc:([D.t x.e,I 10].all bz)=false:=rfl
   have sc0:∀w:Wlk,([D.t (Tru.e { x with people:=x.people.set k w}),I 0].all bz)=false:=fun _=>rfl
   obtain⟨⟨places,roads⟩,time,people,tags,readers,numbers,looked,missed⟩:=x
   simp only[Tru.e,Tru.cs,dE,az,dW,List.map_cons,List.map_nil,LLe,tL]at*
   by_cases d:(nth people k).kT= -1
   · simp (disch:=omega) only[go_sem,K.ez,↓reduceIte,cp,va,th,ex,d,sc,Nat.reduceAdd,Nat.reduceSub]
   · simp (disch:=omega) only[go_sem,K.ez,↓reduceIte,cp,va,th,ex,d,sc0,yk,g1,List.set_set,List.length_set,Nat.reduceAdd,Nat.reduceSub]
 · rw[if_neg c]
   rw[decide_eq_false c]at th
   have sc:([D.t x.e,I 19].all bz)=false:=rfl
   obtain⟨⟨places,roads⟩,time,people,tags,readers,numbers,looked,missed⟩:=x
   simp only[Tru.e,Tru.cs,dE,az,dW,List.map_cons,List.map_nil,LLe,tL]at*
   simp (disch:=omega) only[go_sem,K.ez,↓reduceIte,cp,va,th,sc,Nat.reduceAdd,Nat.reduceSub]
def qk(x:Tru)(i r s:Int):Tru×Int:=
 if 0≤i∧i<x.people.length then
  if(nth x.people i.toNat).kT= -1 then
   if gy x.gz r (nth x.people i.toNat).place<0 then(x,4)
   else if s<0∨3600<s then(x,1)
   else(jz x i.toNat ⟨(nth x.people i.toNat).place,r,gy x.gz r (nth x.people i.toNat).place+s⟩,0)
  else(x,10)
 else(x,19)
theorem C6{x:Tru}(h:x.ok)(i r s:Int):aT 0 N.cP [.t x.e,I i,I r,I s] []=some (.tup [.t (qk x i r s).1.e,I (qk x i r s).2],[]):=by
 refine aB K.kP rfl ?_
 have sz:=h.sz
 have cp:=nO x sz
 have va:=dV h
 have th:=iJ x sz i
 have n3:=h.n3
 unfold qk
 by_cases c:0≤i∧i<x.people.length
 · rw[if_pos c]
   rw[decide_eq_true c]at th
   obtain⟨k,rfl⟩:=Int.eq_ofNat_of_zero_le c.1
   have ck:k<x.people.length:=by omega
   simp only[Int.ofNat_eq_natCast,Int.toNat_natCast]at*
   have wa:=su h.m r (nth x.people k).place
   have wb:=tP h.m r (nth x.people k).place
   generalize gy x.gz r (nth x.people k).place=v at*
   have ex:(x.people.map Wlk.e)[k]?=some (nth x.people k).e:=aD _ ck
   unfold jz
   have g1:=C5 x.people k ck
   have sc:∀j:Int,([D.t x.e,I j].all bz)=false:=fun _=>rfl
   have sc0:∀w:Wlk,([D.t (Tru.e { x with people:=x.people.set k w}),I 0].all bz)=false:=fun _=>rfl
   obtain⟨⟨places,roads⟩,time,people,tags,readers,numbers,looked,missed⟩:=x
   simp only[Tru.e,Tru.cs,dE,az,dW,List.map_cons,List.map_nil,LLe,tL]at*
   by_cases d:(nth people k).kT= -1
   · by_cases d2:v<0
     · simp (disch:=omega) only[go_sem,K.cP,↓reduceIte,cp,va,th,ex,d,sc,wa,d2,Nat.reduceAdd,Nat.reduceSub]
     · by_cases d3:s<0
       · have d4:s<0∨3600<s:= .inl d3
         simp (disch:=omega) only[go_sem,K.cP,↓reduceIte,cp,va,th,ex,d,sc,wa,d2,d3,d4,Nat.reduceAdd,Nat.reduceSub]
       · by_cases d5:3600<s
         · have d4:s<0∨3600<s:= .inr d5
           simp (disch:=omega) only[go_sem,K.cP,↓reduceIte,cp,va,th,ex,d,sc,wa,d2,d3,d4,d5,gt_iff_lt,Nat.reduceAdd,Nat.reduceSub]
         · have d4:¬(s<0∨3600<s):=by omega
           simp (disch:=omega) only[go_sem,K.cP,↓reduceIte,cp,va,th,ex,d,sc0,wa,d2,d3,d4,d5,yk,g1,List.set_set,List.length_set,gt_iff_lt,Nat.reduceAdd,Nat.reduceSub]
   · simp (disch:=omega) only[go_sem,K.cP,↓reduceIte,cp,va,th,ex,d,sc,Nat.reduceAdd,Nat.reduceSub]
 · rw[if_neg c]
   rw[decide_eq_false c]at th
   have sc:([D.t x.e,I 19].all bz)=false:=rfl
   obtain⟨⟨places,roads⟩,time,people,tags,readers,numbers,looked,missed⟩:=x
   simp only[Tru.e,Tru.cs,dE,az,dW,List.map_cons,List.map_nil,LLe,tL]at*
   simp (disch:=omega) only[go_sem,K.cP,↓reduceIte,cp,va,th,sc,Nat.reduceAdd,Nat.reduceSub]
def xg{α:Type}(f:α→α)(l:List α)(j:Nat):List α:=(l.take j).map f++l.drop j
theorem zx{α:Type}(f:α→α)(l:List α):xg f l l.length=l.map f:=by simp[xg]
theorem zy{α:Type}(f:α→α)(l:List α)(j:Nat):(xg f l j).length=l.length:=by
 simp only[xg,List.length_append,List.length_map,List.length_take,List.length_drop];omega
theorem RJ{α:Type}(f:α→α)(l:List α)(j:Nat):(xg f l j)[j]?=l[j]?:=by
 unfold xg
 by_cases h:j<l.length
 · rw[List.getElem?_append_right (by rw[List.length_map,List.length_take];omega),List.length_map,List.length_take,Nat.min_eq_left (by omega),Nat.sub_self,List.getElem?_drop];rfl
 · rw[List.getElem?_eq_none (by rw[List.length_append,List.length_map,List.length_take,List.length_drop];omega),List.getElem?_eq_none (by omega)]
theorem zz{α:Type} [Dat α](f:α→α)(l:List α)(j:Nat):nth (xg f l j) j=nth l j:=by
 unfold nth
 simp only[List.getD_eq_getElem?_getD,RJ]
theorem wI{α:Type} [Dat α](f:α→α)(l:List α)(j:Nat)(h:j<l.length):xg f l (j+1)=(xg f l j).set j (f (nth l j)):=by
 have e:=dR (List.getElem?_eq_getElem h)
 have e2:=jJ h
 have e3:((l.take j).map f).length=j:=by rw[List.length_map,List.length_take];omega
 unfold xg
 rw[List.set_append_right _ _ (by omega),e3,Nat.sub_self,List.drop_eq_getElem_cons h,List.set_cons_zero,e2,List.map_append,List.append_assoc]
 rfl
def tQ(m:cJ)(r p:Int):Int:=if p=(nth m.roads r.toNat).frm then(nth m.roads r.toNat).to else(nth m.roads r.toNat).frm
def jA(m:cJ)(s:Int)(w:Wlk):Wlk:=
 if w.kT= -1 then w else if w.left-s≤0 then⟨tQ m w.kT w.place, -1,0⟩else⟨w.place,w.kT,w.left-s⟩
def pG(x:Tru)(s:Int):Tru×Int:=
 if s<0∨3600<s then(x,1)
 else if 2147483648<x.time+s then(x,8)
 else({ x with time:=x.time+s,people:=x.people.map (jA x.gz s)},0)
theorem Wlk.ok.kT{m:cJ}{w:Wlk}(h:w.ok m)(hr:w.kT≠ -1):0≤w.kT∧w.kT<m.roads.length∧((nth m.roads w.kT.toNat).frm=w.place∨(nth m.roads w.kT.toNat).to=w.place)∧1≤w.left∧w.left≤2147483648:=by
 rcases h.2 with h2 | ⟨a,b,c,d⟩
 · exact absurd h2.1 hr
 · unfold gy at b
   split at b
   · next hh=>
     refine⟨a,hh.2,?_,c,d⟩
     split at b
     · next q=>exact .inl q
     · split at b
       · next q=>exact .inr q
       · omega
   · omega
abbrev tkH(x:Tru)(s:Int)(l:List Wlk)(z:List D):aj:=[.box [.t (.sl (x.gz.places.map Place.e)),.t (.sl (x.gz.roads.map Road.e)),I (x.time+s),.ref 2 0 l.length,.ref 3 0 x.tags.length,.ref 4 0 x.readers.length,.ref 5 0 x.numbers.length,.ref 6 0 x.looked.length,.ref 7 0 x.missed.length],.box z,.arr 3 false 0 ((l.map Wlk.e).map .t),.arr 1 false 0 ((x.tags.map (T.int .i64)).map .t),.arr 4 false 0 ((x.readers.map Rdr.e).map .t),.arr 1 false 0 ((x.numbers.map (T.int .i64)).map .t),.arr 1 false 0 ((x.looked.map (T.int .i64)).map .t),.arr 1 false 0 ((x.missed.map LLe).map .t)]
theorem FV{x:Tru}(h:x.ok)(s:Int):aT 0 N.dM [.t x.e,I s] []=some (.tup [.t (pG x s).1.e,I (pG x s).2],[]):=by
 refine aB K.mc rfl ?_
 have sz:=h.sz
 have cp:=nO x sz
 have va:=dV h
 have n3:=h.n3
 have t0:=h.t0
 have t1:=h.t1
 have nr:=h.m.nr
 unfold pG
 by_cases d1:s<0∨3600<s
 · rw[if_pos d1]
   have sc:∀j:Int,([D.t x.e,I j].all bz)=false:=fun _=>rfl
   obtain⟨⟨places,roads⟩,time,people,tags,readers,numbers,looked,missed⟩:=x
   simp only[Tru.e,Tru.cs,dE,az,dW,List.map_cons,List.map_nil,LLe,tL]at*
   by_cases d2:s<0
   · simp (disch:=omega) only[go_sem,K.dM,↓reduceIte,cp,va,sc,d2,Nat.reduceAdd,Nat.reduceSub]
   · have d3:3600<s:=by omega
     simp (disch:=omega) only[go_sem,K.dM,↓reduceIte,cp,va,sc,d2,d3,gt_iff_lt,Nat.reduceAdd,Nat.reduceSub]
 · rw[if_neg d1]
   have s0:0≤s:=by omega
   have s1:s≤3600:=by omega
   by_cases d4:2147483648<x.time+s
   · rw[if_pos d4]
     have sc:∀j:Int,([D.t x.e,I j].all bz)=false:=fun _=>rfl
     obtain⟨⟨places,roads⟩,time,people,tags,readers,numbers,looked,missed⟩:=x
     simp only[Tru.e,Tru.cs,dE,az,dW,List.map_cons,List.map_nil,LLe,tL]at*
     simp (disch:=omega) only[go_sem,K.dM,↓reduceIte,cp,va,sc,d4,gt_iff_lt,Nat.reduceAdd,Nat.reduceSub]
   · rw[if_neg d4]
     have sc:([D.t (Tru.e { x with time:=x.time+s,people:=x.people.map (jA x.gz s)}),I 0].all bz)=false:=rfl
     have lp1:∀z0 z4 z6 z7:D,exS aT K.oU ⟨[z0,I s,.bp 0 0,.bp 1 0,z4,I 0,z6,z7],tkH x s x.people ae⟩=
      some (.exit 1,⟨[.und,I s,.bp 0 0,.bp 1 0,.und,I x.people.length,.und,.und],tkH x s (x.people.map (jA x.gz s)) ae⟩):=by
      intro z0 z4 z6 z7
      refine bV (fun j=>⟨[.und,I s,.bp 0 0,.bp 1 0,.und,I j,.und,.und],tkH x s (xg (jA x.gz s) x.people j) ae⟩) x.people.length rfl ?_ ?_ (by simp)
      · intro j hj
        have wo:=h.w _ (bg hj)
        have rd:=wo.kT
        rw[wI _ _ _ hj]
        have ln:=zy (jA x.gz s) x.people j
        have gt:=zz (jA x.gz s) x.people j
        have lj:j<(xg (jA x.gz s) x.people j).length:=by omega
        rw[← gt]at rd ⊢
        generalize xg (jA x.gz s) x.people j=q at*
        have g1:=fun w=>C5 q j lj w
        have g2:=fun w w2=>C5 (q.set j w) j (by rw[List.length_set];exact lj) w2
        unfold jA tQ
        by_cases c1:(nth q j).kT= -1
        · have e0:q.set j (nth q j)=q:=by
           rw[dR (List.getElem?_eq_getElem lj),List.set_getElem_self]
          rw[if_pos c1,e0]
          obtain⟨⟨places,roads⟩,time,people,tags,readers,numbers,looked,missed⟩:=x
          simp only[tkH,ae,List.map_cons,List.map_nil,LLe,tL]at*
          simp (disch:=omega) only[go_sem,K.fR,↓reduceIte,c1,ln,Nat.reduceAdd,Nat.reduceSub]
        · obtain⟨r0,r1,r2,r3,r4⟩:=rd c1
          have er:(x.gz.roads.map Road.e)[(nth q j).kT.toNat]?=some (nth x.gz.roads (nth q j).kT.toNat).e:=aD _ (by omega)
          rw[if_neg c1]
          obtain⟨⟨places,roads⟩,time,people,tags,readers,numbers,looked,missed⟩:=x
          simp only[tkH,ae,List.map_cons,List.map_nil,LLe,tL]at*
          by_cases c2:(nth q j).left-s≤0
          · by_cases c3:(nth q j).place=(nth roads (nth q j).kT.toNat).frm
            · simp (disch:=omega) only[go_sem,K.fR,↓reduceIte,c1,c2,c3,er,yk,g1,g2,List.set_set,List.length_set,ln,Nat.reduceAdd,Nat.reduceSub]
            · simp (disch:=omega) only[go_sem,K.fR,↓reduceIte,c1,c2,c3,er,yk,g1,g2,List.set_set,List.length_set,ln,Nat.reduceAdd,Nat.reduceSub]
          · simp (disch:=omega) only[go_sem,K.fR,↓reduceIte,c1,c2,yk,g1,g2,List.set_set,List.length_set,ln,Nat.reduceAdd,Nat.reduceSub]
      · rw[zx]
        obtain⟨⟨places,roads⟩,time,people,tags,readers,numbers,looked,missed⟩:=x
        simp only[tkH,ae,List.map_cons,List.map_nil,LLe,tL]at*
        simp (disch:=omega) only[go_sem,K.fR,↓reduceIte,List.length_map,Nat.reduceAdd,Nat.reduceSub]
     obtain⟨⟨places,roads⟩,time,people,tags,readers,numbers,looked,missed⟩:=x
     simp only[tkH,ae,Tru.e,Tru.cs,dE,az,dW,List.map_cons,List.map_nil,LLe,tL]at*
     simp (disch:=omega) only[go_sem,K.dM,↓reduceIte,cp,va,sc,d4,lp1,gt_iff_lt,List.length_map,Nat.reduceAdd,Nat.reduceSub]
theorem dY{l:Nat}{L:C}{S:St}{p:Ex×St}{K:St→Option (Ex×St)}{E:Ex×St→Option (D×aj)}{R:Option (D×aj)}(h:exS aT L S=some p)(h2:(andThen (ny l (some p)) K).bind E=R):(andThen (ny l (exS aT L S)) K).bind E=R:=by
 rw[h];exact h2
@[go_sem] theorem RK (H : aj) (p o n : Nat) : ya H 1 [.ref p o n] = some (.ref H.length 0 1, H ++ [.arr 1 false 0 [.ref p o n]]) := rfl
abbrev aN(p:Nat)(r:Rdr):D:= .agg [.ref p 0 r.pl.length,I r.per,I r.miss,I r.skew]
abbrev arI(l:List Int):Obj:= .arr 1 false 0 ((l.map (T.int .i64)).map .t)
theorem AE{x:Tru}(h:x.sz)(e1:x.readers=[])(e2:x.missed=[]):aT 2 N.aW [.t x.e] []=
 some (dE 0 x,[.arr 3 false 0 ((x.people.map Wlk.e).map .t),arI x.tags,.arr 4 false 0 [],arI x.numbers,arI x.looked,.arr 1 false 0 []]):=by
 refine aB K.fg rfl ?_
 have c1:=gX x.gz h.a h.b
 obtain⟨ha,hb,hc,hd,hr,hr2,hn,hl,hm,hm2⟩:=h
 obtain⟨⟨places,roads⟩,time,people,tags,readers,numbers,looked,missed⟩:=x
 simp only at e1 e2
 subst e1 e2
 simp only[Tru.e,Tru.cs,dE,az,dW,List.map_cons,List.map_nil,LLe,tL,arI,aN]at*
 simp (disch:=omega) only[go_sem,K.aW,↓reduceIte,c1,Nat.reduceAdd,Nat.reduceSub]
 apply dY
 · apply eW
   simp only[cR,List.set_cons_zero,List.set_cons_succ]
   apply bj
   · simp (disch:=omega) only[go_sem,K.bM,↓reduceIte,Int.reduceAdd,Nat.reduceAdd,Nat.reduceSub]
     rfl
   · simp
 simp (disch:=omega) only[go_sem,K.aW,↓reduceIte,c1,Nat.reduceAdd,Nat.reduceSub]
 apply dY
 · apply eW
   simp only[cR,List.set_cons_zero,List.set_cons_succ]
   apply bj
   · simp (disch:=omega) only[go_sem,K.bN,↓reduceIte,Int.reduceAdd,Nat.reduceAdd,Nat.reduceSub]
     rfl
   · simp
 simp (disch:=omega) only[go_sem,K.aW,↓reduceIte,c1,Nat.reduceAdd,Nat.reduceSub]
theorem tR{x:Tru}(h:x.sz){a:Rdr}{p:List Int}(e1:x.readers=[a])(e2:x.missed=[p]):aT 2 N.aW [.t x.e] []=
 some (dE 0 x,[.arr 3 false 0 ((x.people.map Wlk.e).map .t),arI x.tags,.arr 4 false 0 [aN 6 a],arI x.numbers,arI x.looked,.arr 1 false 0 [.ref 7 0 p.length],arI a.pl,arI p]):=by
 refine aB K.fg rfl ?_
 have c1:=gX x.gz h.a h.b
 obtain⟨ha,hb,hc,hd,hr,hr2,hn,hl,hm,hm2⟩:=h
 obtain⟨⟨places,roads⟩,time,people,tags,readers,numbers,looked,missed⟩:=x
 simp only at e1 e2
 subst e1 e2
 have pa:=hr2 a (by simp)
 have pp:=hm2 p (by simp)
 obtain⟨a1,a2,a3,a4⟩:=a
 simp only[Tru.e,Tru.cs,dE,az,dW,List.map_cons,List.map_nil,LLe,tL,arI,aN]at*
 simp (disch:=omega) only[go_sem,K.aW,↓reduceIte,c1,Nat.reduceAdd,Nat.reduceSub]
 apply dY
 · apply eW
   apply aY
   · simp (disch:=omega) only[go_sem,K.bM,↓reduceIte,cR,List.set_cons_zero,List.set_cons_succ,Int.reduceAdd,Int.reduceToNat,List.getElem?_cons_succ,List.getElem?_cons_zero,Nat.reduceAdd,Nat.reduceSub]
     rfl
   apply bj
   · simp (disch:=omega) only[go_sem,K.bM,↓reduceIte,Int.reduceAdd,Nat.reduceAdd,Nat.reduceSub]
     rfl
   · simp
 simp (disch:=omega) only[go_sem,K.aW,↓reduceIte,c1,Nat.reduceAdd,Nat.reduceSub]
 apply dY
 · apply eW
   apply aY
   · simp (disch:=omega) only[go_sem,K.bN,↓reduceIte,cR,List.set_cons_zero,List.set_cons_succ,Int.reduceAdd,Int.reduceToNat,List.getElem?_cons_succ,List.getElem?_cons_zero,Nat.reduceAdd,Nat.reduceSub]
     rfl
   apply bj
   · simp (disch:=omega) only[go_sem,K.bN,↓reduceIte,Int.reduceAdd,Nat.reduceAdd,Nat.reduceSub]
     rfl
   · simp
 simp (disch:=omega) only[go_sem,K.aW,↓reduceIte,c1,Nat.reduceAdd,Nat.reduceSub]
theorem pH{x:Tru}(h:x.sz){a b:Rdr}{p q:List Int}(e1:x.readers=[a,b])(e2:x.missed=[p,q]):aT 2 N.aW [.t x.e] []=
 some (dE 0 x,[.arr 3 false 0 ((x.people.map Wlk.e).map .t),arI x.tags,.arr 4 false 0 [aN 6 a,aN 7 b],arI x.numbers,arI x.looked,.arr 1 false 0 [.ref 8 0 p.length,.ref 9 0 q.length],arI a.pl,arI b.pl,arI p,arI q]):=by
 refine aB K.fg rfl ?_
 have c1:=gX x.gz h.a h.b
 obtain⟨ha,hb,hc,hd,hr,hr2,hn,hl,hm,hm2⟩:=h
 obtain⟨⟨places,roads⟩,time,people,tags,readers,numbers,looked,missed⟩:=x
 simp only at e1 e2
 subst e1 e2
 have pa:=hr2 a (by simp)
 have pb:=hr2 b (by simp)
 have pp:=hm2 p (by simp)
 have pq:=hm2 q (by simp)
 obtain⟨a1,a2,a3,a4⟩:=a
 obtain⟨b1,b2,b3,b4⟩:=b
 simp only[Tru.e,Tru.cs,dE,az,dW,List.map_cons,List.map_nil,LLe,tL,arI,aN]at*
 simp (disch:=omega) only[go_sem,K.aW,↓reduceIte,c1,Nat.reduceAdd,Nat.reduceSub]
 apply dY
 · apply eW
   apply aY
   · simp (disch:=omega) only[go_sem,K.bM,↓reduceIte,cR,List.set_cons_zero,List.set_cons_succ,Int.reduceAdd,Int.reduceToNat,List.getElem?_cons_succ,List.getElem?_cons_zero,Nat.reduceAdd,Nat.reduceSub]
     rfl
   apply aY
   · simp (disch:=omega) only[go_sem,K.bM,↓reduceIte,cR,List.set_cons_zero,List.set_cons_succ,Int.reduceAdd,Int.reduceToNat,List.getElem?_cons_succ,List.getElem?_cons_zero,Nat.reduceAdd,Nat.reduceSub]
     rfl
   apply bj
   · simp (disch:=omega) only[go_sem,K.bM,↓reduceIte,Int.reduceAdd,Nat.reduceAdd,Nat.reduceSub]
     rfl
   · simp
 simp (disch:=omega) only[go_sem,K.aW,↓reduceIte,c1,Nat.reduceAdd,Nat.reduceSub]
 apply dY
 · apply eW
   apply aY
   · simp (disch:=omega) only[go_sem,K.bN,↓reduceIte,cR,List.set_cons_zero,List.set_cons_succ,Int.reduceAdd,Int.reduceToNat,List.getElem?_cons_succ,List.getElem?_cons_zero,Nat.reduceAdd,Nat.reduceSub]
     rfl
   apply aY
   · simp (disch:=omega) only[go_sem,K.bN,↓reduceIte,cR,List.set_cons_zero,List.set_cons_succ,Int.reduceAdd,Int.reduceToNat,List.getElem?_cons_succ,List.getElem?_cons_zero,Nat.reduceAdd,Nat.reduceSub]
     rfl
   apply bj
   · simp (disch:=omega) only[go_sem,K.bN,↓reduceIte,Int.reduceAdd,Nat.reduceAdd,Nat.reduceSub]
     rfl
   · simp
 simp (disch:=omega) only[go_sem,K.aW,↓reduceIte,c1,Nat.reduceAdd,Nat.reduceSub]
theorem mC{x:Tru}(h:x.sz){a b d:Rdr}{p q r:List Int}(e1:x.readers=[a,b,d])(e2:x.missed=[p,q,r]):aT 2 N.aW [.t x.e] []=
 some (dE 0 x,[.arr 3 false 0 ((x.people.map Wlk.e).map .t),arI x.tags,.arr 4 false 0 [aN 6 a,aN 7 b,aN 8 d],arI x.numbers,arI x.looked,.arr 1 false 0 [.ref 9 0 p.length,.ref 10 0 q.length,.ref 11 0 r.length],arI a.pl,arI b.pl,arI d.pl,arI p,arI q,arI r]):=by
 refine aB K.fg rfl ?_
 have c1:=gX x.gz h.a h.b
 obtain⟨ha,hb,hc,hd,hr,hr2,hn,hl,hm,hm2⟩:=h
 obtain⟨⟨places,roads⟩,time,people,tags,readers,numbers,looked,missed⟩:=x
 simp only at e1 e2
 subst e1 e2
 have pa:=hr2 a (by simp)
 have pb:=hr2 b (by simp)
 have pd:=hr2 d (by simp)
 have pp:=hm2 p (by simp)
 have pq:=hm2 q (by simp)
 have pr:=hm2 r (by simp)
 obtain⟨a1,a2,a3,a4⟩:=a
 obtain⟨b1,b2,b3,b4⟩:=b
 obtain⟨d1,d2,d3,d4⟩:=d
 simp only[Tru.e,Tru.cs,dE,az,dW,List.map_cons,List.map_nil,LLe,tL,arI,aN]at*
 simp (disch:=omega) only[go_sem,K.aW,↓reduceIte,c1,Nat.reduceAdd,Nat.reduceSub]
 apply dY
 · apply eW
   apply aY
   · simp (disch:=omega) only[go_sem,K.bM,↓reduceIte,cR,List.set_cons_zero,List.set_cons_succ,Int.reduceAdd,Int.reduceToNat,List.getElem?_cons_succ,List.getElem?_cons_zero,Nat.reduceAdd,Nat.reduceSub]
     rfl
   apply aY
   · simp (disch:=omega) only[go_sem,K.bM,↓reduceIte,cR,List.set_cons_zero,List.set_cons_succ,Int.reduceAdd,Int.reduceToNat,List.getElem?_cons_succ,List.getElem?_cons_zero,Nat.reduceAdd,Nat.reduceSub]
     rfl
   apply aY
   · simp (disch:=omega) only[go_sem,K.bM,↓reduceIte,cR,List.set_cons_zero,List.set_cons_succ,Int.reduceAdd,Int.reduceToNat,List.getElem?_cons_succ,List.getElem?_cons_zero,Nat.reduceAdd,Nat.reduceSub]
     rfl
   apply bj
   · simp (disch:=omega) only[go_sem,K.bM,↓reduceIte,Int.reduceAdd,Nat.reduceAdd,Nat.reduceSub]
     rfl
   · simp
 simp (disch:=omega) only[go_sem,K.aW,↓reduceIte,c1,Nat.reduceAdd,Nat.reduceSub]
 apply dY
 · apply eW
   apply aY
   · simp (disch:=omega) only[go_sem,K.bN,↓reduceIte,cR,List.set_cons_zero,List.set_cons_succ,Int.reduceAdd,Int.reduceToNat,List.getElem?_cons_succ,List.getElem?_cons_zero,Nat.reduceAdd,Nat.reduceSub]
     rfl
   apply aY
   · simp (disch:=omega) only[go_sem,K.bN,↓reduceIte,cR,List.set_cons_zero,List.set_cons_succ,Int.reduceAdd,Int.reduceToNat,List.getElem?_cons_succ,List.getElem?_cons_zero,Nat.reduceAdd,Nat.reduceSub]
     rfl
   apply aY
   · simp (disch:=omega) only[go_sem,K.bN,↓reduceIte,cR,List.set_cons_zero,List.set_cons_succ,Int.reduceAdd,Int.reduceToNat,List.getElem?_cons_succ,List.getElem?_cons_zero,Nat.reduceAdd,Nat.reduceSub]
     rfl
   apply bj
   · simp (disch:=omega) only[go_sem,K.bN,↓reduceIte,Int.reduceAdd,Nat.reduceAdd,Nat.reduceSub]
     rfl
   · simp
 simp (disch:=omega) only[go_sem,K.aW,↓reduceIte,c1,Nat.reduceAdd,Nat.reduceSub]
def zA(l:List Int)(i j:Nat):List Int:=(l.set i (nth l j)).set j (nth l i)
def swapT(x:Tru)(i j:Int):Tru×Int:=
 if(0≤i∧i<x.people.length)∧(0≤j∧j<x.people.length)∧i≠j then
  if(nth x.people i.toNat).place=(nth x.people j.toNat).place then
   ({ x with tags:=zA x.tags i.toNat j.toNat,missed:=x.missed.map fun l=>zA l i.toNat j.toNat},0)
  else(x,3)
 else(x,19)
theorem ai(q:List Int)(k:Nat)(a:Int):((q.map (T.int .i64)).map D.t).set k (.t (.int .i64 a))=(((q.set k a).map (T.int .i64)).map D.t):=by
 rw[List.map_set,List.map_set]
theorem Lr{x:Tru}(h:x.ok)(e1:x.readers=[])(e2:x.missed=[])(i j:Int):aT 0 N.aU [.t x.e,I i,I j] []=some (.tup [.t (swapT x i j).1.e,I (swapT x i j).2],[]):=by
 refine aB K.gW rfl ?_
 have sz:=h.sz
 have cp:=AE sz e1 e2
 have va:=dV h
 have th:=iJ x sz i
 have th2:=iJ x sz j
 have n3:=h.n3
 have tl:=h.tl
 unfold swapT
 have sc:∀v:Int,([D.t x.e,I v].all bz)=false:=fun _=>rfl
 have sc2:∀(y:Tru) (v:Int),([D.t y.e,I v].all bz)=false:=fun _ _=>rfl
 obtain⟨⟨places,roads⟩,time,people,tags,readers,numbers,looked,missed⟩:=x
 simp only at e1 e2
 subst e1 e2
 simp only[Tru.e,Tru.cs,dE,az,dW,List.map_cons,List.map_nil,LLe,tL,arI,aN,tLL,Rdr.e]at*
 by_cases ci:0≤i∧i<people.length
 · rw[decide_eq_true ci]at th
   by_cases cj:0≤j∧j<people.length
   · rw[decide_eq_true cj]at th2
     by_cases cc:i=j
     · rw[if_neg (by omega)]
       simp (disch:=omega) only[go_sem,K.aU,↓reduceIte,cp,va,th,th2,cc,sc,Nat.reduceAdd,Nat.reduceSub]
     · rw[if_pos ⟨ci,cj,cc⟩]
       obtain⟨k,rfl⟩:=Int.eq_ofNat_of_zero_le ci.1
       obtain⟨n,rfl⟩:=Int.eq_ofNat_of_zero_le cj.1
       simp only[Int.ofNat_eq_natCast,Int.toNat_natCast]at*
       have ck:k<people.length:=by omega
       have cn:n<people.length:=by omega
       by_cases d:(nth people k).place=(nth people n).place
       · rw[if_pos d]
         unfold zA
         simp (disch:=omega) only[go_sem,K.aU,↓reduceIte,cp,va,th,th2,cc,sc2,d,ai,List.length_set,Nat.reduceAdd,Nat.reduceSub]
         apply dY
         · apply eW
           simp only[cR,List.set_cons_zero,List.set_cons_succ]
           apply bj
           · simp (disch:=omega) only[go_sem,K.cH,↓reduceIte,Int.reduceAdd,Nat.reduceAdd,Nat.reduceSub]
             rfl
           · simp
         simp (disch:=omega) only[go_sem,K.aU,↓reduceIte,sc2,List.map_cons,List.map_nil,Nat.reduceAdd,Nat.reduceSub]
       · rw[if_neg d]
         simp (disch:=omega) only[go_sem,K.aU,↓reduceIte,cp,va,th,th2,cc,sc,d,Nat.reduceAdd,Nat.reduceSub]
   · rw[if_neg (by omega)]
     rw[decide_eq_false cj]at th2
     simp (disch:=omega) only[go_sem,K.aU,↓reduceIte,cp,va,th,th2,sc,Nat.reduceAdd,Nat.reduceSub]
 · rw[if_neg (by omega)]
   rw[decide_eq_false ci]at th
   simp (disch:=omega) only[go_sem,K.aU,↓reduceIte,cp,va,th,sc,Nat.reduceAdd,Nat.reduceSub]
theorem Lt{x:Tru}(h:x.ok){a:Rdr}{p:List Int}(e1:x.readers=[a])(e2:x.missed=[p])(i j:Int):aT 0 N.aU [.t x.e,I i,I j] []=some (.tup [.t (swapT x i j).1.e,I (swapT x i j).2],[]):=by
 refine aB K.gW rfl ?_
 have sz:=h.sz
 have cp:=tR sz e1 e2
 have va:=dV h
 have th:=iJ x sz i
 have th2:=iJ x sz j
 have n3:=h.n3
 have tl:=h.tl
 have m0:p.length=x.people.length:=by have:=h.m2 0 (by rw[e1];simp);rw[e2]at this;exact this
 unfold swapT
 have sc:∀v:Int,([D.t x.e,I v].all bz)=false:=fun _=>rfl
 have sc2:∀(y:Tru) (v:Int),([D.t y.e,I v].all bz)=false:=fun _ _=>rfl
 obtain⟨⟨places,roads⟩,time,people,tags,readers,numbers,looked,missed⟩:=x
 simp only at e1 e2
 subst e1 e2
 obtain⟨a1,a2,a3,a4⟩:=a
 simp only[Tru.e,Tru.cs,dE,az,dW,List.map_cons,List.map_nil,LLe,tL,arI,aN,tLL,Rdr.e]at*
 by_cases ci:0≤i∧i<people.length
 · rw[decide_eq_true ci]at th
   by_cases cj:0≤j∧j<people.length
   · rw[decide_eq_true cj]at th2
     by_cases cc:i=j
     · rw[if_neg (by omega)]
       simp (disch:=omega) only[go_sem,K.aU,↓reduceIte,cp,va,th,th2,cc,sc,Nat.reduceAdd,Nat.reduceSub]
     · rw[if_pos ⟨ci,cj,cc⟩]
       obtain⟨k,rfl⟩:=Int.eq_ofNat_of_zero_le ci.1
       obtain⟨n,rfl⟩:=Int.eq_ofNat_of_zero_le cj.1
       simp only[Int.ofNat_eq_natCast,Int.toNat_natCast]at*
       have ck:k<people.length:=by omega
       have cn:n<people.length:=by omega
       by_cases d:(nth people k).place=(nth people n).place
       · rw[if_pos d]
         unfold zA
         simp (disch:=omega) only[go_sem,K.aU,↓reduceIte,cp,va,th,th2,cc,sc2,d,ai,List.length_set,Nat.reduceAdd,Nat.reduceSub]
         apply dY
         · apply eW
           apply aY
           · simp (disch:=omega) only[go_sem,K.cH,↓reduceIte,cR,List.set_cons_zero,List.set_cons_succ,Int.reduceAdd,Int.reduceToNat,List.getElem?_cons_succ,List.getElem?_cons_zero,ai,List.length_set,Nat.reduceAdd,Nat.reduceSub]
             rfl
           apply bj
           · simp (disch:=omega) only[go_sem,K.cH,↓reduceIte,Int.reduceAdd,Nat.reduceAdd,Nat.reduceSub]
             rfl
           · simp
         simp (disch:=omega) only[go_sem,K.aU,↓reduceIte,sc2,List.map_cons,List.map_nil,Nat.reduceAdd,Nat.reduceSub]
       · rw[if_neg d]
         simp (disch:=omega) only[go_sem,K.aU,↓reduceIte,cp,va,th,th2,cc,sc,d,Nat.reduceAdd,Nat.reduceSub]
   · rw[if_neg (by omega)]
     rw[decide_eq_false cj]at th2
     simp (disch:=omega) only[go_sem,K.aU,↓reduceIte,cp,va,th,th2,sc,Nat.reduceAdd,Nat.reduceSub]
 · rw[if_neg (by omega)]
   rw[decide_eq_false ci]at th
   simp (disch:=omega) only[go_sem,K.aU,↓reduceIte,cp,va,th,sc,Nat.reduceAdd,Nat.reduceSub]
theorem Lu{x:Tru}(h:x.ok){a b:Rdr}{p q:List Int}(e1:x.readers=[a,b])(e2:x.missed=[p,q])(i j:Int):aT 0 N.aU [.t x.e,I i,I j] []=some (.tup [.t (swapT x i j).1.e,I (swapT x i j).2],[]):=by
 refine aB K.gW rfl ?_
 have sz:=h.sz
 have cp:=pH sz e1 e2
 have va:=dV h
 have th:=iJ x sz i
 have th2:=iJ x sz j
 have n3:=h.n3
 have tl:=h.tl
 have m0:p.length=x.people.length:=by have:=h.m2 0 (by rw[e1];simp);rw[e2]at this;exact this
 have m1:q.length=x.people.length:=by have:=h.m2 1 (by rw[e1];simp);rw[e2]at this;exact this
 unfold swapT
 have sc:∀v:Int,([D.t x.e,I v].all bz)=false:=fun _=>rfl
 have sc2:∀(y:Tru) (v:Int),([D.t y.e,I v].all bz)=false:=fun _ _=>rfl
 obtain⟨⟨places,roads⟩,time,people,tags,readers,numbers,looked,missed⟩:=x
 simp only at e1 e2
 subst e1 e2
 obtain⟨a1,a2,a3,a4⟩:=a
 obtain⟨b1,b2,b3,b4⟩:=b
 simp only[Tru.e,Tru.cs,dE,az,dW,List.map_cons,List.map_nil,LLe,tL,arI,aN,tLL,Rdr.e]at*
 by_cases ci:0≤i∧i<people.length
 · rw[decide_eq_true ci]at th
   by_cases cj:0≤j∧j<people.length
   · rw[decide_eq_true cj]at th2
     by_cases cc:i=j
     · rw[if_neg (by omega)]
       simp (disch:=omega) only[go_sem,K.aU,↓reduceIte,cp,va,th,th2,cc,sc,Nat.reduceAdd,Nat.reduceSub]
     · rw[if_pos ⟨ci,cj,cc⟩]
       obtain⟨k,rfl⟩:=Int.eq_ofNat_of_zero_le ci.1
       obtain⟨n,rfl⟩:=Int.eq_ofNat_of_zero_le cj.1
       simp only[Int.ofNat_eq_natCast,Int.toNat_natCast]at*
       have ck:k<people.length:=by omega
       have cn:n<people.length:=by omega
       by_cases d:(nth people k).place=(nth people n).place
       · rw[if_pos d]
         unfold zA
         simp (disch:=omega) only[go_sem,K.aU,↓reduceIte,cp,va,th,th2,cc,sc2,d,ai,List.length_set,Nat.reduceAdd,Nat.reduceSub]
         apply dY
         · apply eW
           apply aY
           · simp (disch:=omega) only[go_sem,K.cH,↓reduceIte,cR,List.set_cons_zero,List.set_cons_succ,Int.reduceAdd,Int.reduceToNat,List.getElem?_cons_succ,List.getElem?_cons_zero,ai,List.length_set,Nat.reduceAdd,Nat.reduceSub]
             rfl
           apply aY
           · simp (disch:=omega) only[go_sem,K.cH,↓reduceIte,cR,List.set_cons_zero,List.set_cons_succ,Int.reduceAdd,Int.reduceToNat,List.getElem?_cons_succ,List.getElem?_cons_zero,ai,List.length_set,Nat.reduceAdd,Nat.reduceSub]
             rfl
           apply bj
           · simp (disch:=omega) only[go_sem,K.cH,↓reduceIte,Int.reduceAdd,Nat.reduceAdd,Nat.reduceSub]
             rfl
           · simp
         simp (disch:=omega) only[go_sem,K.aU,↓reduceIte,sc2,List.map_cons,List.map_nil,Nat.reduceAdd,Nat.reduceSub]
       · rw[if_neg d]
         simp (disch:=omega) only[go_sem,K.aU,↓reduceIte,cp,va,th,th2,cc,sc,d,Nat.reduceAdd,Nat.reduceSub]
   · rw[if_neg (by omega)]
     rw[decide_eq_false cj]at th2
     simp (disch:=omega) only[go_sem,K.aU,↓reduceIte,cp,va,th,th2,sc,Nat.reduceAdd,Nat.reduceSub]
 · rw[if_neg (by omega)]
   rw[decide_eq_false ci]at th
   simp (disch:=omega) only[go_sem,K.aU,↓reduceIte,cp,va,th,sc,Nat.reduceAdd,Nat.reduceSub]
theorem Lv{x:Tru}(h:x.ok){a b d:Rdr}{p q r:List Int}(e1:x.readers=[a,b,d])(e2:x.missed=[p,q,r])(i j:Int):aT 0 N.aU [.t x.e,I i,I j] []=some (.tup [.t (swapT x i j).1.e,I (swapT x i j).2],[]):=by
 refine aB K.gW rfl ?_
 have sz:=h.sz
 have cp:=mC sz e1 e2
 have va:=dV h
 have th:=iJ x sz i
 have th2:=iJ x sz j
 have n3:=h.n3
 have tl:=h.tl
 have m0:p.length=x.people.length:=by have:=h.m2 0 (by rw[e1];simp);rw[e2]at this;exact this
 have m1:q.length=x.people.length:=by have:=h.m2 1 (by rw[e1];simp);rw[e2]at this;exact this
 have m2:r.length=x.people.length:=by have:=h.m2 2 (by rw[e1];simp);rw[e2]at this;exact this
 unfold swapT
 have sc:∀v:Int,([D.t x.e,I v].all bz)=false:=fun _=>rfl
 have sc2:∀(y:Tru) (v:Int),([D.t y.e,I v].all bz)=false:=fun _ _=>rfl
 obtain⟨⟨places,roads⟩,time,people,tags,readers,numbers,looked,missed⟩:=x
 simp only at e1 e2
 subst e1 e2
 obtain⟨a1,a2,a3,a4⟩:=a
 obtain⟨b1,b2,b3,b4⟩:=b
 obtain⟨d1,d2,d3,d4⟩:=d
 simp only[Tru.e,Tru.cs,dE,az,dW,List.map_cons,List.map_nil,LLe,tL,arI,aN,tLL,Rdr.e]at*
 by_cases ci:0≤i∧i<people.length
 · rw[decide_eq_true ci]at th
   by_cases cj:0≤j∧j<people.length
   · rw[decide_eq_true cj]at th2
     by_cases cc:i=j
     · rw[if_neg (by omega)]
       simp (disch:=omega) only[go_sem,K.aU,↓reduceIte,cp,va,th,th2,cc,sc,Nat.reduceAdd,Nat.reduceSub]
     · rw[if_pos ⟨ci,cj,cc⟩]
       obtain⟨k,rfl⟩:=Int.eq_ofNat_of_zero_le ci.1
       obtain⟨n,rfl⟩:=Int.eq_ofNat_of_zero_le cj.1
       simp only[Int.ofNat_eq_natCast,Int.toNat_natCast]at*
       have ck:k<people.length:=by omega
       have cn:n<people.length:=by omega
       by_cases d:(nth people k).place=(nth people n).place
       · rw[if_pos d]
         unfold zA
         simp (disch:=omega) only[go_sem,K.aU,↓reduceIte,cp,va,th,th2,cc,sc2,d,ai,List.length_set,Nat.reduceAdd,Nat.reduceSub]
         apply dY
         · apply eW
           apply aY
           · simp (disch:=omega) only[go_sem,K.cH,↓reduceIte,cR,List.set_cons_zero,List.set_cons_succ,Int.reduceAdd,Int.reduceToNat,List.getElem?_cons_succ,List.getElem?_cons_zero,ai,List.length_set,Nat.reduceAdd,Nat.reduceSub]
             rfl
           apply aY
           · simp (disch:=omega) only[go_sem,K.cH,↓reduceIte,cR,List.set_cons_zero,List.set_cons_succ,Int.reduceAdd,Int.reduceToNat,List.getElem?_cons_succ,List.getElem?_cons_zero,ai,List.length_set,Nat.reduceAdd,Nat.reduceSub]
             rfl
           apply aY
           · simp (disch:=omega) only[go_sem,K.cH,↓reduceIte,cR,List.set_cons_zero,List.set_cons_succ,Int.reduceAdd,Int.reduceToNat,List.getElem?_cons_succ,List.getElem?_cons_zero,ai,List.length_set,Nat.reduceAdd,Nat.reduceSub]
             rfl
           apply bj
           · simp (disch:=omega) only[go_sem,K.cH,↓reduceIte,Int.reduceAdd,Nat.reduceAdd,Nat.reduceSub]
             rfl
           · simp
         simp (disch:=omega) only[go_sem,K.aU,↓reduceIte,sc2,List.map_cons,List.map_nil,Nat.reduceAdd,Nat.reduceSub]
       · rw[if_neg d]
         simp (disch:=omega) only[go_sem,K.aU,↓reduceIte,cp,va,th,th2,cc,sc,d,Nat.reduceAdd,Nat.reduceSub]
   · rw[if_neg (by omega)]
     rw[decide_eq_false cj]at th2
     simp (disch:=omega) only[go_sem,K.aU,↓reduceIte,cp,va,th,th2,sc,Nat.reduceAdd,Nat.reduceSub]
 · rw[if_neg (by omega)]
   rw[decide_eq_false ci]at th
   simp (disch:=omega) only[go_sem,K.aU,↓reduceIte,cp,va,th,sc,Nat.reduceAdd,Nat.reduceSub]
theorem fI{gc:Bool}{dead:List Nat}{c:C}{vs:List D}{H:aj}(P:Nat→St→Prop)(n:Nat)(Q:Ex×St→Prop)(h0:P 0 ⟨cR dead vs,H⟩)
 (hs:∀j st,j<n→P j st→(∃st',eB gc dead st.H.length (exS aT c st)=some st'∧P (j+1) st')∨∃q,exS aT c st=some q∧q.1≠ .normal∧Q q)
 (he:∀st,P n st→∃q,exS aT c st=some q∧q.1≠ .normal∧Q q):∃q,exS aT (.loop gc dead c) ⟨vs,H⟩=some q∧Q q:=by
 have key:∀(k j:Nat) (st:St),j+k=n→P j st→∃q,j8 gc dead (exS aT c) st=some q∧Q q:=by
  intro k
  induction k with
  | zero=>
    intro j st hj hp
    obtain⟨q,h1,h2,h3⟩:=he st (by rw[← hj];exact hp)
    exact⟨q,bj h1 h2,h3⟩
  | succ k ih=>
    intro j st hj hp
    rcases hs j st (by omega) hp with⟨st',h1,h2⟩ | ⟨q,h1,h2,h3⟩
    · obtain⟨q,h3,h4⟩:=ih (j+1) st' (by omega) h2
      exact⟨q,aY h1 h3,h4⟩
    · exact⟨q,bj h1 h2,h3⟩
 exact key n 0 _ (by omega) h0
abbrev dJ(k n t:Int)(tags:List Int):T:= .agg [tI k,tI n,tI t,tL tags]
def sM(m:Int)(i:Nat):Int:=IntKind.i64.wrap (BitVec.ofInt 64 (m.fdiv (2 ^ min i 64)) &&& BitVec.ofInt 64 1).toNat
theorem km(j:Nat)(h:j<1000000):IntKind.u64.wrap (j:Int)=j:=by
 simp only[IntKind.wrap,IntKind.bits,IntKind.signed];simp;omega
theorem kn(m:Int)(j:Nat)(H:aj):fF H .shr (some (I m)) (some (.t (.int .u64 j)))=some (I (m.fdiv (2 ^ min j 64)),H):=by
 have h:fF H .shr (some (.t (.int .i64 m))) (some (.t (.int .u64 (j:Int))))=some (.t (.int .i64 (m.fdiv (2 ^ min (j:Int).toNat IntKind.i64.bits))),H):=vO _ _ _ _ _ (by omega)
 exact h
theorem fJ(m:Int)(j:Nat)(H:aj):fF H .and (some (I (m.fdiv (2 ^ min j 64)))) (some (I 1))=some (I (sM m j),H):=by
 rw[BT];rfl
def eP(m:Int)(i:Nat):Bool:=decide (sM m i=1)
def bO(people:List Wlk)(pl:List Int)(i:Nat):Bool:=decide ((nth people i).place∈pl)
def bI(people:List Wlk)(pl:List Int)(m:Int)(row:List Int)(i:Nat):Int:=if bO people pl i&&eP m i then nth row i+1 else 0
def cV(people:List Wlk)(pl:List Int)(miss m:Int)(row:List Int)(i:Nat):Bool:=bO people pl i&&eP m i&&decide (miss<nth row i+1)
def a7(g:Nat→Int)(row:List Int):Nat→List Int
 | 0=>row
 | j+1=>(a7 g row j).set j (g j)
theorem cD(g:Nat→Int)(row:List Int):∀j,(a7 g row j).length=row.length
 | 0=>rfl
 | j+1=>by rw[a7,List.length_set,cD g row j]
theorem gY{α:Type} [Dat α]{l:List α}{i j:Nat}{a:α}(h:j≠i):nth (l.set j a) i=nth l i:=by
 unfold nth
 simp only[List.getD_eq_getElem?_getD,List.getElem?_set_ne h]
theorem aK{α:Type} [Dat α]{l:List α}{i:Nat}{a:α}(h:i<l.length):nth (l.set i a) i=a:=dR (List.getElem?_set_self h)
theorem iI(g:Nat→Int)(row:List Int):∀j i,j≤i→nth (a7 g row j) i=nth row i
 | 0,_,_=>rfl
 | j+1,i,h=>by rw[a7,gY (by omega),iI g row j i (by omega)]
theorem C7(g:Nat→Int)(row:List Int):∀j i,i<j→i<row.length→nth (a7 g row j) i=g i
 | 0,i,h,_=>absurd h (by omega)
 | j+1,i,h,hl=>by
   rw[a7]
   by_cases c:i=j
   · subst c;exact aK (by rw[cD];exact hl)
   · rw[gY (fun e=>c e.symm),C7 g row j i (by omega) hl]
def fm(l:List Int)(t:Int):Nat:=match (List.range l.length).find? (fun k=> !decide (nth l k<t))with
 | some k=>k
 | none=>l.length
theorem fC(l:List Int)(t:Int):fm l t≤l.length:=by
 unfold fm
 split
 · rename_i k h;exact Nat.le_of_lt (uv h).1
 · exact Nat.le_refl _
theorem di(l:List Int)(t:Int):(∀i,i<fm l t→nth l i<t)∧(fm l t<l.length→¬nth l (fm l t)<t):=by
 unfold fm
 cases hf:(List.range l.length).find? (fun k=> !decide (nth l k<t))with
 | some k=>
   have h2:=uv hf
   have h3:=List.find?_range_eq_some.1 hf
   refine⟨fun i hi=>?_,fun _=>?_⟩
   · have:=h3.2.2 i hi
     simpa using this
   · have:=h2.2
     simpa using this
 | none=>
   refine⟨fun i hi=>?_,fun h=>absurd h (Nat.lt_irrefl _)⟩
   have:=List.find?_eq_none.1 hf i (List.mem_range.2 hi)
   simpa using this
def kY(l:List Int)(t:Int):List Int:=(l.take (fm l t)++[t])++l.drop (fm l t)
theorem dZ(l:List Int)(t:Int):(kY l t).length=l.length+1:=by
 have:=fC l t
 simp only[kY,List.length_append,List.length_take,List.length_drop,List.length_singleton];omega
def lg(x:Tru)(k:Nat):Int:=(nth x.numbers k+(if 0≤nth x.looked k∧(nth x.readers k).per<x.time-nth x.looked k then 2 else 1)).tmod 65536
def du(x:Tru)(k:Nat)(m:Int):Tru:=
 { x with numbers:=x.numbers.set k (lg x k),looked:=x.looked.set k x.time,missed:=x.missed.set k (a7 (bI x.people (nth x.readers k).pl m (nth x.missed k)) (nth x.missed k) x.people.length)}
def nQ(x:Tru)(k:Nat)(m:Int):Bool:=(List.range x.people.length).any (cV x.people (nth x.readers k).pl (nth x.readers k).miss m (nth x.missed k))
theorem FW{x:Tru}(h:x.ok)(k m off:Int)(hk:¬(0≤k∧k<x.readers.length)):∃r e,aT 0 N.ah [.t x.e,I k,I m,I off] []=some (.tup [.t x.e,.t r,I e],[]):=by
 refine⟨dJ 0 0 0 [],40,aB K.aP rfl ?_⟩
 have sz:=h.sz
 have cp:=fB x sz
 have va:=dV h
 have rl:=h.rl
 have sc:∀(r:T) (v:Int),([D.t x.e,D.t r,I v].all bz)=false:=fun _ _=>rfl
 obtain⟨⟨places,roads⟩,time,people,tags,readers,numbers,looked,missed⟩:=x
 simp only[Tru.e,Tru.cs,dJ,List.map_cons,List.map_nil,LLe,tL]at*
 by_cases c:k<0
 · simp (disch:=omega) only[go_sem,K.ah,↓reduceIte,cp,va,sc,c,Nat.reduceAdd,Nat.reduceSub]
 · have c2:¬k<readers.length:=by omega
   simp (disch:=omega) only[go_sem,K.ah,↓reduceIte,cp,va,sc,c,c2,Nat.reduceAdd,Nat.reduceSub]
theorem C8{x:Tru}(h:x.ok)(k:Nat)(m off:Int)(hk:k<x.readers.length)(ho:¬((-(nth x.readers k).skew≤off∧off≤(nth x.readers k).skew)∧0≤x.time+off∧x.time+off≤2147483648))(hb: -1000≤off∧off≤1000):∃r e,aT 0 N.ah [.t x.e,I k,I m,I off] []=some (.tup [.t x.e,.t r,I e],[]):=by
 refine⟨dJ 0 0 0 [],1,aB K.aP rfl ?_⟩
 have sz:=h.sz
 have cp:=fB x sz
 have va:=dV h
 have rl:=h.rl
 have t0:=h.t0
 have t1:=h.t1
 have k1:=(h.r _ (bg hk)).k1
 have k2:=(h.r _ (bg hk)).k2
 have ex:(x.readers.map Rdr.e)[k]?=some (nth x.readers k).e:=aD _ hk
 have sc:∀(r:T) (v:Int),([D.t x.e,D.t r,I v].all bz)=false:=fun _ _=>rfl
 generalize nth x.readers k=y at*
 obtain⟨⟨places,roads⟩,time,people,tags,readers,numbers,looked,missed⟩:=x
 obtain⟨y1,y2,y3,y4⟩:=y
 simp only[Tru.e,Tru.cs,dJ,List.map_cons,List.map_nil,LLe,tL]at*
 by_cases c1:off< -y4
 · simp (disch:=omega) only[go_sem,K.ah,↓reduceIte,cp,va,sc,ex,c1,Nat.reduceAdd,Nat.reduceSub]
 · by_cases c2:y4<off
   · simp (disch:=omega) only[go_sem,K.ah,↓reduceIte,cp,va,sc,ex,c1,c2,gt_iff_lt,Nat.reduceAdd,Nat.reduceSub]
   · by_cases c3:time+off<0
     · simp (disch:=omega) only[go_sem,K.ah,↓reduceIte,cp,va,sc,ex,c1,c2,c3,gt_iff_lt,Nat.reduceAdd,Nat.reduceSub]
     · have c4:2147483648<time+off:=by omega
       simp (disch:=omega) only[go_sem,K.ah,↓reduceIte,cp,va,sc,ex,c1,c2,c3,c4,gt_iff_lt,Nat.reduceAdd,Nat.reduceSub]
theorem iZ(k:Nat)(g:List Int):cz 1 (List.map D.t (List.take k (List.map (T.int .i64) g)))=true:=by
 rw[← List.map_take];cases g.take k<;>rfl
theorem gM(k i:Nat)(g:List Int):cz 1 (List.map D.t (List.take k (List.drop i (List.map (T.int .i64) g))))=true:=by
 rw[← List.map_drop,←List.map_take];cases (g.drop i).take k<;>rfl
theorem cM(i:Nat)(g:List Int):List.take (g.length-i) (List.drop i (List.map (T.int .i64) g))=List.drop i (List.map (T.int .i64) g):=List.take_of_length_le (by simp)
theorem b7{l:Nat}{L:C}{S:St}{K:St→Option (Ex×St)}{E:Ex×St→Option (D×aj)}{R:Option (D×aj)}(Q:Ex×St→Prop)(h:∃q,exS aT L S=some q∧Q q)(h2:∀q,Q q→(andThen (ny l (some q)) K).bind E=R):(andThen (ny l (exS aT L S)) K).bind E=R:=by
 obtain⟨q,h,hq⟩:=h
 rw[h];exact h2 q hq
@[go_sem] theorem AF (H : aj) (sz : Nat) : jD H sz true (some .nil) (some .nil) = some (.ref H.length 0 0, H ++ [.arr sz false 0 []]) := rfl
@[go_sem] theorem FX (H : aj) (sz : Nat) (x : D) : jD H sz true (some x) (some .nil) = x8 H sz x (([] : List T).map .t) := by
 have e:elems H .nil=some []:=rfl
 simp only[jD,Option.bind_some,iN,e,if_true,bX]
 exact x9 _ _ _ _
def bf(n:Nat)(G:List (List Int)):D:=match G with
 | []=> .nil
 | [g]=> .ref n 0 g.length
 | [_,g]=> .ref (n+1) 0 g.length
 | [_,_,g]=> .ref (n+2) 0 g.length
 | _=> .t (.sl [])
def sw(x:Tru)(a:Rdr)(p:List Int)(m off:Int)(j:Nat)(st:St):Prop:=∃G:List (List Int),G.length≤j∧(∀i,i<j→(cV x.people a.pl a.miss m p) i=false)∧(∀g∈G,g.length≤j)∧st=⟨[.und,I 0,I m,.und,.bp 0 0,.bp 1 0,.bp 2 0,.und,.bp 3 0,.bp 12 0,.bp 13 0,I j,.und,.und],[.box (x.cs.map .t),.box ae,.box [I 0,I 0,I 0,.nil],.box [.t (tL a.pl),I a.per,I a.miss,I a.skew],.arr 3 false 0 ((x.people.map Wlk.e).map .t),arI x.tags,.arr 4 false 0 [aN 10 a],arI x.numbers,arI x.looked,.arr 1 false 0 [.ref 11 0 p.length],arI a.pl,arI (a7 (bI x.people a.pl m p) p j),.box (az 4 x),.box [I 0,I 0,I (x.time+off),bf 14 G]]++(G.map fun g=>arI g)⟩
def C9(x:Tru)(a:Rdr)(p:List Int)(m off:Int)(q:Ex×St):Prop:=((List.range x.people.length).any (cV x.people a.pl a.miss m p)=true∧∃(j:Nat) (rest:aj),q=(.ret,⟨[.und,I 0,I m,.und,.bp 0 0,.bp 1 0,.bp 2 0,I 43,.bp 3 0,.bp 12 0,.bp 13 0,I j,.und,.und],.box (x.cs.map .t):: .box (x.cs.map .t):: .box [I 0,I 0,I 0,.nil]::rest⟩))∨((List.range x.people.length).any (cV x.people a.pl a.miss m p)=false∧∃st,sw x a p m off x.people.length st∧q=(.exit 0,st))
theorem Lw{x:Tru}(h:x.ok){a:Rdr}{p:List Int}(e1:x.readers=[a])(e2:x.missed=[p])(m off:Int)(j:Nat)(st:St)(hj:j<x.people.length)(hp:sw x a p m off j st):
 (∃st',eB false [0,3,7,12,13] st.H.length (exS aT K.ab st)=some st'∧sw x a p m off (j+1) st')∨∃q,exS aT K.ab st=some q∧q.1≠ .normal∧C9 x a p m off q:=by
 have n3:=h.n3
 have tl:=h.tl
 have nl:=h.nl
 have ll:=h.ll
 have t0:=h.t0
 have t1:=h.t1
 have nb:=h.nb 0 (by rw[e1];simp)
 have mb:=h.mb 0 (by rw[e1];simp)
 have m2:=h.m2 0 (by rw[e1];simp)
 have rk:nth x.readers 0=a:=by rw[e1];rfl
 have mk:nth x.missed 0=p:=by rw[e2];rfl
 have ml:x.missed.length=1:=by rw[e2];rfl
 have rn:x.readers.length=1:=by rw[e1];rfl
 have ro:=h.r a (by rw[e1];simp)
 rw[rk,mk]at mb
 rw[mk]at m2
 obtain⟨rs,rl,rl1,rp1,rp2,rm1,rm2,rk1,rk2⟩:=ro
 have ex:(x.people.map Wlk.e)[j]?=some (nth x.people j).e:=aD _ hj
 have et:(x.tags.map (T.int .i64))[j]?=some (tI (nth x.tags j)):=aD _ (by omega)
 have hs:=qd a.pl (nth x.people j).place (by omega)
 have mbj:=mb j hj
 have wu:IntKind.u64.wrap (j:Int)=j:=km j (by omega)
 have sh:=kn m j
 have an:=fJ m j
 obtain⟨G,gl,hb,gb,rfl⟩:=hp
 have ql:=cD (bI x.people a.pl m p) p j
 have qj:=iI (bI x.people a.pl m p) p j j (Nat.le_refl _)
 by_cases hq:(cV x.people a.pl a.miss m p) j=true
 · have anyb:(List.range x.people.length).any (cV x.people a.pl a.miss m p)=true:=List.any_eq_true.2 ⟨j,List.mem_range.2 hj,hq⟩
   unfold cV bO eP at hq
   simp only[Bool.and_eq_true,decide_eq_true_eq]at hq
   obtain⟨⟨h1,h2⟩,h3⟩:=hq
   generalize a7 _ p j=q at*
   rw[← qj]at h3
   have nse:nth (q.set j (nth q j+1)) j=nth q j+1:=aK (by omega)
   rw[decide_eq_true h1]at hs
   have key:∃rest:aj,exS aT K.ab ⟨[.und,I 0,I m,.und,.bp 0 0,.bp 1 0,.bp 2 0,.und,.bp 3 0,.bp 12 0,.bp 13 0,I j,.und,.und],[.box (x.cs.map .t),.box ae,.box [I 0,I 0,I 0,.nil],.box [.t (tL a.pl),I a.per,I a.miss,I a.skew],.arr 3 false 0 ((x.people.map Wlk.e).map .t),arI x.tags,.arr 4 false 0 [aN 10 a],arI x.numbers,arI x.looked,.arr 1 false 0 [.ref 11 0 p.length],arI a.pl,arI q,.box (az 4 x),.box [I 0,I 0,I (x.time+off),bf 14 G]]++(G.map fun g=>arI g)⟩=some (.ret,⟨[.und,I 0,I m,.und,.bp 0 0,.bp 1 0,.bp 2 0,I 43,.bp 3 0,.bp 12 0,.bp 13 0,I j,.und,.und],.box (x.cs.map .t):: .box (x.cs.map .t):: .box [I 0,I 0,I 0,.nil]::rest⟩):=by
    rcases G with _ | ⟨g,_ | ⟨g2,_ | ⟨g3,G⟩⟩⟩
    · obtain⟨⟨places,roads⟩,time,people,tags,readers,numbers,looked,missed⟩:=x
      simp only[ae,Tru.cs,az,aN,arI,bf,List.getLast?,List.getLast,List.cons_append,List.nil_append,List.map_cons,List.map_nil,LLe,tL,ml,rn,Nat.reduceAdd,Nat.reduceSub,List.length_cons,List.length_nil]at*
      simp (disch:=omega) only[go_sem,K.ab,↓reduceIte,ex,hs,wu,sh,an,h2,nse,h3,ai,List.length_set,ql,gt_iff_lt,Nat.reduceAdd,Nat.reduceSub]
      exact⟨_,rfl⟩
    · obtain⟨⟨places,roads⟩,time,people,tags,readers,numbers,looked,missed⟩:=x
      simp only[ae,Tru.cs,az,aN,arI,bf,List.getLast?,List.getLast,List.cons_append,List.nil_append,List.map_cons,List.map_nil,LLe,tL,ml,rn,Nat.reduceAdd,Nat.reduceSub,List.length_cons,List.length_nil]at*
      simp (disch:=omega) only[go_sem,K.ab,↓reduceIte,ex,hs,wu,sh,an,h2,nse,h3,ai,List.length_set,ql,gt_iff_lt,Nat.reduceAdd,Nat.reduceSub]
      exact⟨_,rfl⟩
    · obtain⟨⟨places,roads⟩,time,people,tags,readers,numbers,looked,missed⟩:=x
      simp only[ae,Tru.cs,az,aN,arI,bf,List.getLast?,List.getLast,List.cons_append,List.nil_append,List.map_cons,List.map_nil,LLe,tL,ml,rn,Nat.reduceAdd,Nat.reduceSub,List.length_cons,List.length_nil]at*
      simp (disch:=omega) only[go_sem,K.ab,↓reduceIte,ex,hs,wu,sh,an,h2,nse,h3,ai,List.length_set,ql,gt_iff_lt,Nat.reduceAdd,Nat.reduceSub]
      exact⟨_,rfl⟩
    · simp only[List.length_cons]at gl;omega
   obtain⟨rest,key⟩:=key
   exact .inr ⟨_,key,by simp,.inl ⟨anyb,j,rest,rfl⟩⟩
 · have hq:(cV x.people a.pl a.miss m p) j=false:=by simpa using hq
   have hb2:∀i,i<j+1→(cV x.people a.pl a.miss m p) i=false:=fun i hi=>by
    by_cases c:i=j
    · rw[c];exact hq
    · exact hb i (by omega)
   have gb2:∀g∈G,g.length≤j+1:=fun g hg=>Nat.le_succ_of_le (gb g hg)
   left
   by_cases h1:(nth x.people j).place∈a.pl
   · rw[decide_eq_true h1]at hs
     by_cases h2:sM m j=1
     · have nw:(bI x.people a.pl m p) j=nth p j+1:=by unfold bI bO eP;rw[decide_eq_true h1,decide_eq_true h2];rfl
       have nl0:¬a.miss<nth p j+1:=by
        unfold cV bO eP at hq
        rw[decide_eq_true h1,decide_eq_true h2]at hq
        simpa using hq
       refine⟨_,?_,G,by omega,hb2,gb2,rfl⟩
       simp only[a7,nw]
       generalize a7 _ p j=q at*
       rw[← qj]at nl0 ⊢
       have nse:nth (q.set j (nth q j+1)) j=nth q j+1:=aK (by omega)
       rcases G with _ | ⟨g,_ | ⟨g2,_ | ⟨g3,G⟩⟩⟩
       · obtain⟨⟨places,roads⟩,time,people,tags,readers,numbers,looked,missed⟩:=x
         simp only[ae,Tru.cs,az,aN,arI,bf,List.getLast?,List.getLast,List.cons_append,List.nil_append,List.map_cons,List.map_nil,LLe,tL,ml,rn,Nat.reduceAdd,Nat.reduceSub,List.length_cons,List.length_nil]at*
         simp (disch:=omega) only[go_sem,K.ab,↓reduceIte,ex,hs,wu,sh,an,h2,nse,nl0,ai,List.length_set,ql,gt_iff_lt,Nat.reduceAdd,Nat.reduceSub]
       · obtain⟨⟨places,roads⟩,time,people,tags,readers,numbers,looked,missed⟩:=x
         simp only[ae,Tru.cs,az,aN,arI,bf,List.getLast?,List.getLast,List.cons_append,List.nil_append,List.map_cons,List.map_nil,LLe,tL,ml,rn,Nat.reduceAdd,Nat.reduceSub,List.length_cons,List.length_nil]at*
         simp (disch:=omega) only[go_sem,K.ab,↓reduceIte,ex,hs,wu,sh,an,h2,nse,nl0,ai,List.length_set,ql,gt_iff_lt,Nat.reduceAdd,Nat.reduceSub]
       · obtain⟨⟨places,roads⟩,time,people,tags,readers,numbers,looked,missed⟩:=x
         simp only[ae,Tru.cs,az,aN,arI,bf,List.getLast?,List.getLast,List.cons_append,List.nil_append,List.map_cons,List.map_nil,LLe,tL,ml,rn,Nat.reduceAdd,Nat.reduceSub,List.length_cons,List.length_nil]at*
         simp (disch:=omega) only[go_sem,K.ab,↓reduceIte,ex,hs,wu,sh,an,h2,nse,nl0,ai,List.length_set,ql,gt_iff_lt,Nat.reduceAdd,Nat.reduceSub]
       · simp only[List.length_cons]at gl;omega
     · have nw:(bI x.people a.pl m p) j=0:=by unfold bI bO eP;rw[decide_eq_true h1,decide_eq_false h2];rfl
       have rs1:a7 (bI x.people a.pl m p) p (j+1)=(a7 (bI x.people a.pl m p) p j).set j 0:=by rw[a7,nw]
       unfold sw
       rw[rs1]
       generalize a7 _ p j=q at*
       rcases G with _ | ⟨g,_ | ⟨g2,_ | ⟨g3,G⟩⟩⟩
       · have pl:=fC ([]:List Int) (nth x.tags j)
         have fp:=di ([]:List Int) (nth x.tags j)
         have lp2:∀z0 z3 z7 z13:D,exS aT K.bk ⟨[z0,I 0,I m,z3,.bp 0 0,.bp 1 0,.bp 2 0,z7,.bp 3 0,.bp 12 0,.bp 13 0,I j,I 0,z13],[.box (x.cs.map .t),.box ae,.box [I 0,I 0,I 0,.nil],.box [.t (tL a.pl),I a.per,I a.miss,I a.skew],.arr 3 false 0 ((x.people.map Wlk.e).map .t),arI x.tags,.arr 4 false 0 [aN 10 a],arI x.numbers,arI x.looked,.arr 1 false 0 [.ref 11 0 p.length],arI a.pl,arI (q.set j 0),.box (az 4 x),.box [I 0,I 0,I (x.time+off),bf 14 []]]++([]:List (List Int)).map fun g=>arI g⟩=some (.exit 2,⟨[.und,I 0,I m,.und,.bp 0 0,.bp 1 0,.bp 2 0,.und,.bp 3 0,.bp 12 0,.bp 13 0,I j,I (fm ([]:List Int) (nth x.tags j)),.und],[.box (x.cs.map .t),.box ae,.box [I 0,I 0,I 0,.nil],.box [.t (tL a.pl),I a.per,I a.miss,I a.skew],.arr 3 false 0 ((x.people.map Wlk.e).map .t),arI x.tags,.arr 4 false 0 [aN 10 a],arI x.numbers,arI x.looked,.arr 1 false 0 [.ref 11 0 p.length],arI a.pl,arI (q.set j 0),.box (az 4 x),.box [I 0,I 0,I (x.time+off),bf 14 []]]++([]:List (List Int)).map fun g=>arI g⟩):=by
          intro z0 z3 z7 z13
          refine bV (fun i=>⟨[.und,I 0,I m,.und,.bp 0 0,.bp 1 0,.bp 2 0,.und,.bp 3 0,.bp 12 0,.bp 13 0,I j,I i,.und],[.box (x.cs.map .t),.box ae,.box [I 0,I 0,I 0,.nil],.box [.t (tL a.pl),I a.per,I a.miss,I a.skew],.arr 3 false 0 ((x.people.map Wlk.e).map .t),arI x.tags,.arr 4 false 0 [aN 10 a],arI x.numbers,arI x.looked,.arr 1 false 0 [.ref 11 0 p.length],arI a.pl,arI (q.set j 0),.box (az 4 x),.box [I 0,I 0,I (x.time+off),bf 14 []]]++([]:List (List Int)).map fun g=>arI g⟩) (fm ([]:List Int) (nth x.tags j)) rfl ?_ ?_ (by simp)
          · intro i hi
            exact absurd hi (by simp only[List.length_nil]at pl;omega)
          · generalize fm ([]:List Int) (nth x.tags j)=i at*
            have i0:i=0:=by simp only[List.length_nil]at pl;omega
            subst i0
            obtain⟨⟨places,roads⟩,time,people,tags,readers,numbers,looked,missed⟩:=x
            simp only[ae,Tru.cs,az,aN,arI,bf,List.getLast?,List.getLast,List.cons_append,List.nil_append,List.map_cons,List.map_nil,LLe,tL,ml,rn,Nat.reduceAdd,Nat.reduceSub,List.length_cons,List.length_nil]at*
            simp (disch:=omega) only[go_sem,K.aA,↓reduceIte,et,Nat.reduceAdd,Nat.reduceSub]
         refine⟨_,?_,[]++[(kY ([]:List Int) (nth x.tags j))],by simp only[List.length_append,List.length_cons,List.length_nil]at *;omega,hb2,?_,rfl⟩
         · unfold kY
           generalize fm ([]:List Int) (nth x.tags j)=i at*
           obtain⟨⟨places,roads⟩,time,people,tags,readers,numbers,looked,missed⟩:=x
           simp only[ae,Tru.cs,az,aN,arI,bf,List.getLast?,List.getLast,List.cons_append,List.nil_append,List.map_cons,List.map_nil,LLe,tL,ml,rn,Nat.reduceAdd,Nat.reduceSub,List.length_cons,List.length_nil]at*
           simp (disch:=omega) only[go_sem,K.ab,↓reduceIte,ex,et,hs,wu,sh,an,h2,lp2,ai,List.length_set,ql,List.map_append,List.map_cons,List.map_nil,List.length_append,List.length_take,List.length_drop,List.length_singleton,List.length_map,Nat.reduceAdd,Nat.reduceSub]
         · intro g4 hg
           simp only[List.mem_append,List.mem_cons,List.not_mem_nil,or_false,false_or]at hg
           rw[hg,dZ];simp
       · have pl:=fC g (nth x.tags j)
         have fp:=di g (nth x.tags j)
         have tgl:=gb g (by simp)
         have lp2:∀z0 z3 z7 z13:D,exS aT K.bk ⟨[z0,I 0,I m,z3,.bp 0 0,.bp 1 0,.bp 2 0,z7,.bp 3 0,.bp 12 0,.bp 13 0,I j,I 0,z13],[.box (x.cs.map .t),.box ae,.box [I 0,I 0,I 0,.nil],.box [.t (tL a.pl),I a.per,I a.miss,I a.skew],.arr 3 false 0 ((x.people.map Wlk.e).map .t),arI x.tags,.arr 4 false 0 [aN 10 a],arI x.numbers,arI x.looked,.arr 1 false 0 [.ref 11 0 p.length],arI a.pl,arI (q.set j 0),.box (az 4 x),.box [I 0,I 0,I (x.time+off),bf 14 [g]]]++([g]:List (List Int)).map fun g=>arI g⟩=some (.exit 2,⟨[.und,I 0,I m,.und,.bp 0 0,.bp 1 0,.bp 2 0,.und,.bp 3 0,.bp 12 0,.bp 13 0,I j,I (fm g (nth x.tags j)),.und],[.box (x.cs.map .t),.box ae,.box [I 0,I 0,I 0,.nil],.box [.t (tL a.pl),I a.per,I a.miss,I a.skew],.arr 3 false 0 ((x.people.map Wlk.e).map .t),arI x.tags,.arr 4 false 0 [aN 10 a],arI x.numbers,arI x.looked,.arr 1 false 0 [.ref 11 0 p.length],arI a.pl,arI (q.set j 0),.box (az 4 x),.box [I 0,I 0,I (x.time+off),bf 14 [g]]]++([g]:List (List Int)).map fun g=>arI g⟩):=by
          intro z0 z3 z7 z13
          refine bV (fun i=>⟨[.und,I 0,I m,.und,.bp 0 0,.bp 1 0,.bp 2 0,.und,.bp 3 0,.bp 12 0,.bp 13 0,I j,I i,.und],[.box (x.cs.map .t),.box ae,.box [I 0,I 0,I 0,.nil],.box [.t (tL a.pl),I a.per,I a.miss,I a.skew],.arr 3 false 0 ((x.people.map Wlk.e).map .t),arI x.tags,.arr 4 false 0 [aN 10 a],arI x.numbers,arI x.looked,.arr 1 false 0 [.ref 11 0 p.length],arI a.pl,arI (q.set j 0),.box (az 4 x),.box [I 0,I 0,I (x.time+off),bf 14 [g]]]++([g]:List (List Int)).map fun g=>arI g⟩) (fm g (nth x.tags j)) rfl ?_ ?_ (by simp)
          · intro i hi
            have lt:=fp.1 i hi
            have eg:(g.map (T.int .i64))[i]?=some (tI (nth g i)):=aD _ (by omega)
            obtain⟨⟨places,roads⟩,time,people,tags,readers,numbers,looked,missed⟩:=x
            simp only[ae,Tru.cs,az,aN,arI,bf,List.getLast?,List.getLast,List.cons_append,List.nil_append,List.map_cons,List.map_nil,LLe,tL,ml,rn,Nat.reduceAdd,Nat.reduceSub,List.length_cons,List.length_nil]at*
            simp (disch:=omega) only[go_sem,K.aA,↓reduceIte,eg,et,lt,List.length_map,Nat.reduceAdd,Nat.reduceSub]
          · generalize fm g (nth x.tags j)=i at*
            have eg:=fun hi:i<g.length=>(aD _ hi:(g.map (T.int .i64))[i]?=some (tI (nth g i)))
            obtain⟨⟨places,roads⟩,time,people,tags,readers,numbers,looked,missed⟩:=x
            simp only[ae,Tru.cs,az,aN,arI,bf,List.getLast?,List.getLast,List.cons_append,List.nil_append,List.map_cons,List.map_nil,LLe,tL,ml,rn,Nat.reduceAdd,Nat.reduceSub,List.length_cons,List.length_nil]at*
            by_cases hi:i<g.length
            · have lt:=fp.2 hi
              have eg:=eg hi
              simp (disch:=omega) only[go_sem,K.aA,↓reduceIte,eg,et,lt,hi,List.length_map,Nat.reduceAdd,Nat.reduceSub]
            · simp (disch:=omega) only[go_sem,K.aA,↓reduceIte,hi,List.length_map,Nat.reduceAdd,Nat.reduceSub]
         refine⟨_,?_,[g]++[(kY g (nth x.tags j))],by simp only[List.length_append,List.length_cons,List.length_nil]at *;omega,hb2,?_,rfl⟩
         · unfold kY
           generalize fm g (nth x.tags j)=i at*
           obtain⟨⟨places,roads⟩,time,people,tags,readers,numbers,looked,missed⟩:=x
           simp only[ae,Tru.cs,az,aN,arI,bf,List.getLast?,List.getLast,List.cons_append,List.nil_append,List.map_cons,List.map_nil,LLe,tL,ml,rn,Nat.reduceAdd,Nat.reduceSub,List.length_cons,List.length_nil]at*
           simp (disch:=omega) only[go_sem,K.ab,↓reduceIte,ex,et,hs,wu,sh,an,h2,lp2,ai,List.length_set,ql,List.map_append,List.map_cons,List.map_nil,List.length_append,List.length_take,List.length_drop,List.length_singleton,List.length_map,iZ,gM,Nat.reduceAdd,Nat.reduceSub]
           simp only[List.map_append,List.map_take,List.map_drop,List.map_cons,List.map_nil,Nat.min_self,Nat.sub_zero,cM]
         · intro g4 hg
           simp only[List.mem_append,List.mem_cons,List.not_mem_nil,or_false,false_or]at hg
           rcases hg with hg | hg
           · rw[hg];exact gb2 _ (by simp)
           · rw[hg,dZ];omega
       · have pl:=fC g2 (nth x.tags j)
         have fp:=di g2 (nth x.tags j)
         have tgl:=gb g2 (by simp)
         have lp2:∀z0 z3 z7 z13:D,exS aT K.bk ⟨[z0,I 0,I m,z3,.bp 0 0,.bp 1 0,.bp 2 0,z7,.bp 3 0,.bp 12 0,.bp 13 0,I j,I 0,z13],[.box (x.cs.map .t),.box ae,.box [I 0,I 0,I 0,.nil],.box [.t (tL a.pl),I a.per,I a.miss,I a.skew],.arr 3 false 0 ((x.people.map Wlk.e).map .t),arI x.tags,.arr 4 false 0 [aN 10 a],arI x.numbers,arI x.looked,.arr 1 false 0 [.ref 11 0 p.length],arI a.pl,arI (q.set j 0),.box (az 4 x),.box [I 0,I 0,I (x.time+off),bf 14 [g,g2]]]++([g,g2]:List (List Int)).map fun g=>arI g⟩=some (.exit 2,⟨[.und,I 0,I m,.und,.bp 0 0,.bp 1 0,.bp 2 0,.und,.bp 3 0,.bp 12 0,.bp 13 0,I j,I (fm g2 (nth x.tags j)),.und],[.box (x.cs.map .t),.box ae,.box [I 0,I 0,I 0,.nil],.box [.t (tL a.pl),I a.per,I a.miss,I a.skew],.arr 3 false 0 ((x.people.map Wlk.e).map .t),arI x.tags,.arr 4 false 0 [aN 10 a],arI x.numbers,arI x.looked,.arr 1 false 0 [.ref 11 0 p.length],arI a.pl,arI (q.set j 0),.box (az 4 x),.box [I 0,I 0,I (x.time+off),bf 14 [g,g2]]]++([g,g2]:List (List Int)).map fun g=>arI g⟩):=by
          intro z0 z3 z7 z13
          refine bV (fun i=>⟨[.und,I 0,I m,.und,.bp 0 0,.bp 1 0,.bp 2 0,.und,.bp 3 0,.bp 12 0,.bp 13 0,I j,I i,.und],[.box (x.cs.map .t),.box ae,.box [I 0,I 0,I 0,.nil],.box [.t (tL a.pl),I a.per,I a.miss,I a.skew],.arr 3 false 0 ((x.people.map Wlk.e).map .t),arI x.tags,.arr 4 false 0 [aN 10 a],arI x.numbers,arI x.looked,.arr 1 false 0 [.ref 11 0 p.length],arI a.pl,arI (q.set j 0),.box (az 4 x),.box [I 0,I 0,I (x.time+off),bf 14 [g,g2]]]++([g,g2]:List (List Int)).map fun g=>arI g⟩) (fm g2 (nth x.tags j)) rfl ?_ ?_ (by simp)
          · intro i hi
            have lt:=fp.1 i hi
            have eg:(g2.map (T.int .i64))[i]?=some (tI (nth g2 i)):=aD _ (by omega)
            obtain⟨⟨places,roads⟩,time,people,tags,readers,numbers,looked,missed⟩:=x
            simp only[ae,Tru.cs,az,aN,arI,bf,List.getLast?,List.getLast,List.cons_append,List.nil_append,List.map_cons,List.map_nil,LLe,tL,ml,rn,Nat.reduceAdd,Nat.reduceSub,List.length_cons,List.length_nil]at*
            simp (disch:=omega) only[go_sem,K.aA,↓reduceIte,eg,et,lt,List.length_map,Nat.reduceAdd,Nat.reduceSub]
          · generalize fm g2 (nth x.tags j)=i at*
            have eg:=fun hi:i<g2.length=>(aD _ hi:(g2.map (T.int .i64))[i]?=some (tI (nth g2 i)))
            obtain⟨⟨places,roads⟩,time,people,tags,readers,numbers,looked,missed⟩:=x
            simp only[ae,Tru.cs,az,aN,arI,bf,List.getLast?,List.getLast,List.cons_append,List.nil_append,List.map_cons,List.map_nil,LLe,tL,ml,rn,Nat.reduceAdd,Nat.reduceSub,List.length_cons,List.length_nil]at*
            by_cases hi:i<g2.length
            · have lt:=fp.2 hi
              have eg:=eg hi
              simp (disch:=omega) only[go_sem,K.aA,↓reduceIte,eg,et,lt,hi,List.length_map,Nat.reduceAdd,Nat.reduceSub]
            · simp (disch:=omega) only[go_sem,K.aA,↓reduceIte,hi,List.length_map,Nat.reduceAdd,Nat.reduceSub]
         refine⟨_,?_,[g,g2]++[(kY g2 (nth x.tags j))],by simp only[List.length_append,List.length_cons,List.length_nil]at *;omega,hb2,?_,rfl⟩
         · unfold kY
           generalize fm g2 (nth x.tags j)=i at*
           obtain⟨⟨places,roads⟩,time,people,tags,readers,numbers,looked,missed⟩:=x
           simp only[ae,Tru.cs,az,aN,arI,bf,List.getLast?,List.getLast,List.cons_append,List.nil_append,List.map_cons,List.map_nil,LLe,tL,ml,rn,Nat.reduceAdd,Nat.reduceSub,List.length_cons,List.length_nil]at*
           simp (disch:=omega) only[go_sem,K.ab,↓reduceIte,ex,et,hs,wu,sh,an,h2,lp2,ai,List.length_set,ql,List.map_append,List.map_cons,List.map_nil,List.length_append,List.length_take,List.length_drop,List.length_singleton,List.length_map,iZ,gM,Nat.reduceAdd,Nat.reduceSub]
           simp only[List.map_append,List.map_take,List.map_drop,List.map_cons,List.map_nil,Nat.min_self,Nat.sub_zero,cM]
         · intro g4 hg
           simp only[List.mem_append,List.mem_cons,List.not_mem_nil,or_false,false_or]at hg
           rcases hg with(hg | hg) | hg
           · rw[hg];exact gb2 _ (by simp)
           · rw[hg];exact gb2 _ (by simp)
           · rw[hg,dZ];omega
       · simp only[List.length_cons]at gl;omega
   · have nw:(bI x.people a.pl m p) j=0:=by unfold bI bO eP;rw[decide_eq_false h1];rfl
     rw[decide_eq_false h1]at hs
     refine⟨_,?_,G,by omega,hb2,gb2,rfl⟩
     simp only[a7,nw]
     generalize a7 _ p j=q at*
     rcases G with _ | ⟨g,_ | ⟨g2,_ | ⟨g3,G⟩⟩⟩
     · obtain⟨⟨places,roads⟩,time,people,tags,readers,numbers,looked,missed⟩:=x
       simp only[ae,Tru.cs,az,aN,arI,bf,List.getLast?,List.getLast,List.cons_append,List.nil_append,List.map_cons,List.map_nil,LLe,tL,ml,rn,Nat.reduceAdd,Nat.reduceSub,List.length_cons,List.length_nil]at*
       simp (disch:=omega) only[go_sem,K.ab,↓reduceIte,ex,hs,ai,List.length_set,ql,Nat.reduceAdd,Nat.reduceSub]
     · obtain⟨⟨places,roads⟩,time,people,tags,readers,numbers,looked,missed⟩:=x
       simp only[ae,Tru.cs,az,aN,arI,bf,List.getLast?,List.getLast,List.cons_append,List.nil_append,List.map_cons,List.map_nil,LLe,tL,ml,rn,Nat.reduceAdd,Nat.reduceSub,List.length_cons,List.length_nil]at*
       simp (disch:=omega) only[go_sem,K.ab,↓reduceIte,ex,hs,ai,List.length_set,ql,Nat.reduceAdd,Nat.reduceSub]
     · obtain⟨⟨places,roads⟩,time,people,tags,readers,numbers,looked,missed⟩:=x
       simp only[ae,Tru.cs,az,aN,arI,bf,List.getLast?,List.getLast,List.cons_append,List.nil_append,List.map_cons,List.map_nil,LLe,tL,ml,rn,Nat.reduceAdd,Nat.reduceSub,List.length_cons,List.length_nil]at*
       simp (disch:=omega) only[go_sem,K.ab,↓reduceIte,ex,hs,ai,List.length_set,ql,Nat.reduceAdd,Nat.reduceSub]
     · simp only[List.length_cons]at gl;omega
theorem Lx{x:Tru}(h:x.ok){a:Rdr}{p:List Int}(e1:x.readers=[a])(e2:x.missed=[p])(m off:Int)(z0 z3 z7 z12 z13:D):∃q,exS aT K.fA ⟨[z0,I 0,I m,z3,.bp 0 0,.bp 1 0,.bp 2 0,z7,.bp 3 0,.bp 12 0,.bp 13 0,I 0,z12,z13],[.box (x.cs.map .t),.box ae,.box [I 0,I 0,I 0,.nil],.box [.t (tL a.pl),I a.per,I a.miss,I a.skew],.arr 3 false 0 ((x.people.map Wlk.e).map .t),arI x.tags,.arr 4 false 0 [aN 10 a],arI x.numbers,arI x.looked,.arr 1 false 0 [.ref 11 0 p.length],arI a.pl,arI p,.box (az 4 x),.box [I 0,I 0,I (x.time+off),.nil]]⟩=some q∧C9 x a p m off q:=by
 have n3:=h.n3
 have tl:=h.tl
 have nl:=h.nl
 have ll:=h.ll
 have t0:=h.t0
 have t1:=h.t1
 have nb:=h.nb 0 (by rw[e1];simp)
 have mb:=h.mb 0 (by rw[e1];simp)
 have m2:=h.m2 0 (by rw[e1];simp)
 have rk:nth x.readers 0=a:=by rw[e1];rfl
 have mk:nth x.missed 0=p:=by rw[e2];rfl
 have ml:x.missed.length=1:=by rw[e2];rfl
 have rn:x.readers.length=1:=by rw[e1];rfl
 have ro:=h.r a (by rw[e1];simp)
 rw[rk,mk]at mb
 rw[mk]at m2
 obtain⟨rs,rl,rl1,rp1,rp2,rm1,rm2,rk1,rk2⟩:=ro
 refine fI (sw x a p m off) x.people.length _ ⟨[],Nat.le_refl _,fun i hi=>absurd hi (by omega),fun g hg=>absurd hg (by simp),rfl⟩ (fun j st hj hp=>Lw h e1 e2 m off j st hj hp) ?_
 intro st hp
 refine⟨(.exit 0,st),?_,by simp,.inr ⟨?_,st,hp,rfl⟩⟩
 · obtain⟨G,gl,hb,gb,rfl⟩:=hp
   generalize a7 _ p _=q at*
   rcases G with _ | ⟨g,_ | ⟨g2,_ | ⟨g3,_ | ⟨g4,G⟩⟩⟩⟩
   · obtain⟨⟨places,roads⟩,time,people,tags,readers,numbers,looked,missed⟩:=x
     simp only[ae,Tru.cs,az,aN,arI,bf,List.getLast?,List.getLast,List.cons_append,List.nil_append,List.map_cons,List.map_nil,LLe,tL,ml,rn,Nat.reduceAdd,Nat.reduceSub,List.length_cons,List.length_nil]at*
     simp (disch:=omega) only[go_sem,K.ab,↓reduceIte,Nat.reduceAdd,Nat.reduceSub]
   · obtain⟨⟨places,roads⟩,time,people,tags,readers,numbers,looked,missed⟩:=x
     simp only[ae,Tru.cs,az,aN,arI,bf,List.getLast?,List.getLast,List.cons_append,List.nil_append,List.map_cons,List.map_nil,LLe,tL,ml,rn,Nat.reduceAdd,Nat.reduceSub,List.length_cons,List.length_nil]at*
     simp (disch:=omega) only[go_sem,K.ab,↓reduceIte,Nat.reduceAdd,Nat.reduceSub]
   · obtain⟨⟨places,roads⟩,time,people,tags,readers,numbers,looked,missed⟩:=x
     simp only[ae,Tru.cs,az,aN,arI,bf,List.getLast?,List.getLast,List.cons_append,List.nil_append,List.map_cons,List.map_nil,LLe,tL,ml,rn,Nat.reduceAdd,Nat.reduceSub,List.length_cons,List.length_nil]at*
     simp (disch:=omega) only[go_sem,K.ab,↓reduceIte,Nat.reduceAdd,Nat.reduceSub]
   · obtain⟨⟨places,roads⟩,time,people,tags,readers,numbers,looked,missed⟩:=x
     simp only[ae,Tru.cs,az,aN,arI,bf,List.getLast?,List.getLast,List.cons_append,List.nil_append,List.map_cons,List.map_nil,LLe,tL,ml,rn,Nat.reduceAdd,Nat.reduceSub,List.length_cons,List.length_nil]at*
     simp (disch:=omega) only[go_sem,K.ab,↓reduceIte,Nat.reduceAdd,Nat.reduceSub]
   · simp only[List.length_cons]at gl;omega
 · obtain⟨G,gl,hb,gb,rfl⟩:=hp
   rw[List.any_eq_false]
   intro i hi
   rw[hb i (List.mem_range.1 hi)]
   decide
set_option maxHeartbeats 4000000 in
theorem Da{x:Tru}(h:x.ok){a:Rdr}{p:List Int}(e1:x.readers=[a])(e2:x.missed=[p])(m off:Int)(o1: -a.skew≤off)(o2:off≤a.skew)(o3:0≤x.time+off)(o4:x.time+off≤2147483648):
 ∃r e,aT 0 N.ah [.t x.e,I 0,I m,I off] []=some (.tup [.t (if nQ x 0 m then x else du x 0 m).e,.t r,I e],[]):=by
 have n3:=h.n3
 have tl:=h.tl
 have nl:=h.nl
 have ll:=h.ll
 have t0:=h.t0
 have t1:=h.t1
 have nb:=h.nb 0 (by rw[e1];simp)
 have mb:=h.mb 0 (by rw[e1];simp)
 have m2:=h.m2 0 (by rw[e1];simp)
 have rk:nth x.readers 0=a:=by rw[e1];rfl
 have mk:nth x.missed 0=p:=by rw[e2];rfl
 have ml:x.missed.length=1:=by rw[e2];rfl
 have rn:x.readers.length=1:=by rw[e1];rfl
 have ro:=h.r a (by rw[e1];simp)
 rw[rk,mk]at mb
 rw[mk]at m2
 obtain⟨rs,rl,rl1,rp1,rp2,rm1,rm2,rk1,rk2⟩:=ro
 have sz:=h.sz
 have cp0:=fB x sz
 have cp:=tR sz e1 e2
 have va:=dV h
 have lpL:=Lx h e1 e2 m off
 have scl:∀(y:Tru) (r:T) (v:Int),([D.t y.e,D.t r,I v].all bz)=false:=fun _ _ _=>rfl
 unfold nQ du lg
 rw[rk,mk]
 by_cases bq:(List.range x.people.length).any (cV x.people a.pl a.miss m p)=true
 · rw[if_pos bq]
   refine⟨dJ 0 0 0 [],43,aB K.aP rfl ?_⟩
   obtain⟨⟨places,roads⟩,time,people,tags,readers,numbers,looked,missed⟩:=x
   subst e1 e2
   simp only[Tru.e,Tru.cs,ae,dE,az,dW,List.map_cons,List.map_nil,LLe,tL,arI,aN,tLL,Rdr.e]at*
   simp (disch:=omega) only[go_sem,K.ah,↓reduceIte,cp0,cp,va,gt_iff_lt,Nat.reduceAdd,Nat.reduceSub]
   refine b7 _ (lpL _ _ _ _ _) ?_
   rintro q (⟨_,j,rest,rfl⟩ | ⟨n,_⟩)
   · simp (disch:=omega) only[go_sem,K.ah,↓reduceIte,scl,Nat.reduceAdd,Nat.reduceSub]
     rfl
   · rw[n]at bq;cases bq
 · rw[if_neg bq]
   have en:(x.numbers.map (T.int .i64))[0]?=some (tI (nth x.numbers 0)):=aD _ (by omega)
   have el:(x.looked.map (T.int .i64))[0]?=some (tI (nth x.looked 0)):=aD _ (by omega)
   generalize nth x.numbers 0=nu at*
   generalize nth x.looked 0=lo at*
   obtain⟨q,hq,hQ⟩:=lpL (.t x.e) (I off) (I 0) .und .und
   rcases hQ with⟨n,_⟩ | ⟨_,st,⟨G,gl,hb,gb,rfl⟩,rfl⟩
   · exact absurd n bq
   have wl:=cD (bI x.people a.pl m p) p x.people.length
   have ns:∀v:Int,nth (x.numbers.set 0 v) 0=v:=fun v=>aK (by omega)
   generalize a7 _ p _=w at*
   rcases G with _ | ⟨g,_ | ⟨g2,_ | ⟨g3,_ | ⟨g4,G⟩⟩⟩⟩
   · refine⟨dJ 0 ((nu+if 0≤lo∧a.per<x.time-lo then 2 else 1).tmod 65536) (x.time+off) [],0,aB K.aP rfl ?_⟩
     obtain⟨⟨places,roads⟩,time,people,tags,readers,numbers,looked,missed⟩:=x
     subst e1 e2
     simp only[ae,Tru.e,Tru.cs,dJ,dE,az,dW,aN,arI,tLL,Rdr.e,bf,List.cons_append,List.nil_append,List.map_cons,List.map_nil,LLe,tL,Nat.reduceAdd,Nat.reduceSub,List.length_cons,List.length_nil]at*
     by_cases ca:0≤lo
     · by_cases cb:a.per<time-lo
       · rw[if_pos ⟨ca,cb⟩]
         simp (disch:=omega) only[go_sem,K.ah,↓reduceIte,cp0,cp,va,hq,en,el,ca,cb,gt_iff_lt,ai,scl,ns,wl,List.length_set,Nat.reduceAdd,Nat.reduceSub]
       · rw[if_neg (fun e=>cb e.2)]
         simp (disch:=omega) only[go_sem,K.ah,↓reduceIte,cp0,cp,va,hq,en,el,ca,cb,gt_iff_lt,ai,scl,ns,wl,List.length_set,Nat.reduceAdd,Nat.reduceSub]
     · rw[if_neg (fun e=>ca e.1)]
       simp (disch:=omega) only[go_sem,K.ah,↓reduceIte,cp0,cp,va,hq,en,el,ca,gt_iff_lt,ai,scl,ns,wl,List.length_set,Nat.reduceAdd,Nat.reduceSub]
   · refine⟨dJ 0 ((nu+if 0≤lo∧a.per<x.time-lo then 2 else 1).tmod 65536) (x.time+off) g,0,aB K.aP rfl ?_⟩
     obtain⟨⟨places,roads⟩,time,people,tags,readers,numbers,looked,missed⟩:=x
     subst e1 e2
     simp only[ae,Tru.e,Tru.cs,dJ,dE,az,dW,aN,arI,tLL,Rdr.e,bf,List.cons_append,List.nil_append,List.map_cons,List.map_nil,LLe,tL,Nat.reduceAdd,Nat.reduceSub,List.length_cons,List.length_nil]at*
     by_cases ca:0≤lo
     · by_cases cb:a.per<time-lo
       · rw[if_pos ⟨ca,cb⟩]
         simp (disch:=omega) only[go_sem,K.ah,↓reduceIte,cp0,cp,va,hq,en,el,ca,cb,gt_iff_lt,ai,scl,ns,wl,List.length_set,Nat.reduceAdd,Nat.reduceSub]
       · rw[if_neg (fun e=>cb e.2)]
         simp (disch:=omega) only[go_sem,K.ah,↓reduceIte,cp0,cp,va,hq,en,el,ca,cb,gt_iff_lt,ai,scl,ns,wl,List.length_set,Nat.reduceAdd,Nat.reduceSub]
     · rw[if_neg (fun e=>ca e.1)]
       simp (disch:=omega) only[go_sem,K.ah,↓reduceIte,cp0,cp,va,hq,en,el,ca,gt_iff_lt,ai,scl,ns,wl,List.length_set,Nat.reduceAdd,Nat.reduceSub]
   · refine⟨dJ 0 ((nu+if 0≤lo∧a.per<x.time-lo then 2 else 1).tmod 65536) (x.time+off) g2,0,aB K.aP rfl ?_⟩
     obtain⟨⟨places,roads⟩,time,people,tags,readers,numbers,looked,missed⟩:=x
     subst e1 e2
     simp only[ae,Tru.e,Tru.cs,dJ,dE,az,dW,aN,arI,tLL,Rdr.e,bf,List.cons_append,List.nil_append,List.map_cons,List.map_nil,LLe,tL,Nat.reduceAdd,Nat.reduceSub,List.length_cons,List.length_nil]at*
     by_cases ca:0≤lo
     · by_cases cb:a.per<time-lo
       · rw[if_pos ⟨ca,cb⟩]
         simp (disch:=omega) only[go_sem,K.ah,↓reduceIte,cp0,cp,va,hq,en,el,ca,cb,gt_iff_lt,ai,scl,ns,wl,List.length_set,Nat.reduceAdd,Nat.reduceSub]
       · rw[if_neg (fun e=>cb e.2)]
         simp (disch:=omega) only[go_sem,K.ah,↓reduceIte,cp0,cp,va,hq,en,el,ca,cb,gt_iff_lt,ai,scl,ns,wl,List.length_set,Nat.reduceAdd,Nat.reduceSub]
     · rw[if_neg (fun e=>ca e.1)]
       simp (disch:=omega) only[go_sem,K.ah,↓reduceIte,cp0,cp,va,hq,en,el,ca,gt_iff_lt,ai,scl,ns,wl,List.length_set,Nat.reduceAdd,Nat.reduceSub]
   · refine⟨dJ 0 ((nu+if 0≤lo∧a.per<x.time-lo then 2 else 1).tmod 65536) (x.time+off) g3,0,aB K.aP rfl ?_⟩
     obtain⟨⟨places,roads⟩,time,people,tags,readers,numbers,looked,missed⟩:=x
     subst e1 e2
     simp only[ae,Tru.e,Tru.cs,dJ,dE,az,dW,aN,arI,tLL,Rdr.e,bf,List.cons_append,List.nil_append,List.map_cons,List.map_nil,LLe,tL,Nat.reduceAdd,Nat.reduceSub,List.length_cons,List.length_nil]at*
     by_cases ca:0≤lo
     · by_cases cb:a.per<time-lo
       · rw[if_pos ⟨ca,cb⟩]
         simp (disch:=omega) only[go_sem,K.ah,↓reduceIte,cp0,cp,va,hq,en,el,ca,cb,gt_iff_lt,ai,scl,ns,wl,List.length_set,Nat.reduceAdd,Nat.reduceSub]
       · rw[if_neg (fun e=>cb e.2)]
         simp (disch:=omega) only[go_sem,K.ah,↓reduceIte,cp0,cp,va,hq,en,el,ca,cb,gt_iff_lt,ai,scl,ns,wl,List.length_set,Nat.reduceAdd,Nat.reduceSub]
     · rw[if_neg (fun e=>ca e.1)]
       simp (disch:=omega) only[go_sem,K.ah,↓reduceIte,cp0,cp,va,hq,en,el,ca,gt_iff_lt,ai,scl,ns,wl,List.length_set,Nat.reduceAdd,Nat.reduceSub]
   · simp only[List.length_cons]at gl;omega
end Go.Ev
