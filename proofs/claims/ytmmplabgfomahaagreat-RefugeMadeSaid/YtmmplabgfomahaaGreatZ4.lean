/- Parts of the proof: see the text that holds the theorem. -/
import Derived.Test.YtmmplabgfomahaaGreatZ3
set_option linter.all false
open Nat (reduceAdd reduceSub)
set_option maxRecDepth 100000
namespace Go.Ev
open Go
variable [Lib] [aZ] [bc]
@[go_sem] theorem O5 {α β γ : Type} [Dat α] (f : β → γ) (g : α → β) {l : List α} {i j : Nat} {x : α} (h : j < l.length) : (((l.set i x).map g).map f)[j]? = some (f (g (nth (l.set i x) j))) := yM f g (by rw [List.length_set]; exact h)
def afX(l:List Int)(i j:Nat):List Int:=(l.set i (nth l j)).set j (nth l i)
def afY(i j:Nat)(t:Int)(x:World):World:=⟨afX x.tags i j,(x.whr.set i (Oo (nth x.whr i) t).1).set j (Oo (nth x.whr j) t).1⟩
def afZ(i j:Nat)(t:Int)(x:World)(out:List World):List World:=if afT (nth x.whr i) (nth x.whr j) t=true then out++[afY i j t x]else out
def Jg(i j:Nat)(t:Int)(ws:List World):Nat→List World
 | 0=>ws
 | k+1=>afZ i j t (nth ws k) (Jg i j t ws k)
def SW(m:aK)(b:Bel)(i j t:Int):Bel×Int:=
 if ahb m b=false then(b,6)else if i<0∨((nth b.dD 0).tags.length:Int)≤i∨j<0∨((nth b.dD 0).tags.length:Int)≤j∨i=j then(b,19)
 else if ¬inT t then(b,8)else if 24<(aac (Jg i.toNat j.toNat t b.dD b.dD.length)).length then(b,44)else(⟨aac (Jg i.toNat j.toNat t b.dD b.dD.length)⟩,0)
def aad:Nat→List Int
 | 0=>[]
 | k+1=>aad k++[3+(k:Int)*2]
def ax.Eo(d:ax)(n:Int):Nat→List Int×ax
 | 0=>([],d)
 | k+1=>((d.Eo n k).1++[((d.Eo n k).2.next n).1],((d.Eo n k).2.next n).2)
structure BSt where
 b:Bel
 t:Int
 d:ax
def ax.SX(m:aK)(n:Int)(s:BSt):BSt:=
 let a:=s.d.next 60
 let c:=a.2.next 3
 if c.1=0 then
  let i:=c.2.next n
  let j:=i.2.next n
  let r:=SW m s.b i.1 j.1 (s.t+a.1)
  ⟨if r.2=0 then r.1 else s.b,s.t+a.1,j.2⟩
 else if c.1=1 then
  let g:=c.2.next n
  let l:=g.2.kU m.aa.length
  let e:=l.2.next 9
  let r:=Z5 m s.b (3+2*g.1) l.1 (s.t+a.1) (s.t+a.1+e.1)
  ⟨if r.2=0 then r.1 else s.b,s.t+a.1,e.2⟩
 else
  let g:=c.2.next n
  let l:=g.2.kU m.aa.length
  let e:=l.2.next 40
  let r:=Z8 m s.b (3+2*g.1) l.1 (s.t+a.1) (s.t+a.1+50) e.1
  ⟨if r.2=0 then r.1 else s.b,s.t+a.1,e.2⟩
def ax.ahk(m:aK)(n:Int)(s:BSt):Nat→BSt
 | 0=>s
 | k+1=>ax.SX m n (ax.ahk m n s k)
def ax.af0(d:ax):Nat:=(1+(d.next 3).1).toNat
def ax.ac8(d:ax)(m:aK):List Int×ax:=(d.next 3).2.Eo m.aa.length d.af0
def ax.aif(d:ax)(m:aK):BSt:=⟨(MG m (aad d.af0) (d.ac8 m).1 ((d.ac8 m).2.next 100).1).1,100,(((d.ac8 m).2.next 100).2.next 5).2⟩
def ax.aih(d:ax)(m:aK):Nat:=(((d.ac8 m).2.next 100).2.next 5).1.toNat
def ax.ahl(d:ax)(m:aK):BSt:=ax.ahk m d.af0 (d.aif m) (d.aih m)
def ax.ahm(d:ax)(m:aK):Bel×ax:=((d.ahl m).b,(d.ahl m).d)
structure WOk(m:aK)(N:Nat)(x:World):Prop where
 tg:x.tags.length=N
 wh:x.whr.length=N
 fr:∀w∈x.whr,w.frm.length=m.aa.length
 ti:∀w∈x.whr,inT w.time
structure BOk(m:aK)(N:Nat)(b:Bel):Prop where
 w1:1≤b.dD.length
 w2:b.dD.length≤24
 n1:1≤N
 n2:N≤12
 ws:∀x∈b.dD,WOk m N x
theorem WOk.sz{m:aK}{N:Nat}{x:World}(h:WOk m N x)(hm:m.ok)(hn:N≤12):x.sz:=by
 have np:=hm.np
 obtain⟨t1,t2,t3, -⟩:=h
 exact⟨by omega,by omega,fun w hw=>by rw[t3 w hw];omega⟩
theorem BOk.sz{m:aK}{N:Nat}{b:Bel}(h:BOk m N b)(hm:m.ok):b.sz:=
 ⟨by have:=h.w2;omega,fun x hx=>(h.ws x hx).sz hm h.n2⟩
def ax.spread(d:ax)(m:aK)(fl:List Spn):Wh×ax:=
 let p:=d.next m.aa.length
 let t:=p.2.next 200
 let s:=Zy m fl [p.1] t.1
 let o:=t.2.one 2
 if o.1=true then
  let f:=o.2.afM m
  let a:=f.2.next 100
  let r:=RV m fl m f.1 s.1 (s.1.time+a.1)
  if r.2=0 then(r.1,a.2)else(s.1,a.2)
 else(s.1,o.2)
structure Mch where
 kind:Int
 num:Int
 pl:List Int
instance : Dat Mch := ⟨⟨0, 0, []⟩⟩
abbrev Mch.e(x:Mch):T:= .agg [tI x.kind,tI x.num,tL x.pl]
@[go_sem] theorem aae (l : List Mch) : kQ 3 (l.map Mch.e) = true := by cases l <;> rfl
theorem AU{n:Nat}{p q:Nat→Bool}(h:∀k,k<n→p k=q k):eM n p=eM n q:=by
 unfold eM
 congr 1
 refine List.filter_congr fun x hx=>h x (aLu.1 hx)
theorem Ep{α:Type} [Dat α]{l:List α}{p:α→Bool}:((List.range l.length).find? fun j=>p (nth l j)).isSome=l.any p:=by
 rw[List.isSome_find?,Bool.eq_iff_iff,List.any_eq_true,List.any_eq_true]
 constructor
 · rintro ⟨j,hj,h⟩
   exact⟨_,aI (aLu.1 hj),h⟩
 · rintro ⟨x,hx,h⟩
   obtain⟨j,hj⟩:=aLf.1 hx
   exact⟨j,aLu.2 (aLe.1 hj).1,by rw[fw hj];exact h⟩
end Go.Ev
namespace Go.Ev
open Go
variable [Lib] [aZ] [bc] [cG] [cJ] [eC] [cL] [cM] [dG] [dE] [bI] [bM]
theorem MH{l:List Int}{lo hi:Int}:Sb l lo hi=true↔l.Pairwise (· < ·)∧∀x∈l,lo≤x∧x≤hi:=by
 have e:Sb l lo hi=true↔∀j,j<l.length→lo≤nth l j∧nth l j≤hi∧(0<j→nth l (j-1)<nth l j):=by
  simp only[Sb,Bool.not_eq_true',List.any_eq_false,aLu,IL,Bool.not_eq_true]
  constructor
  · intro h j hj
    have:=h j hj
    exact Decidable.byContradiction fun c=>this (decide_eq_false c)
  · intro h j hj c
    exact(of_decide_eq_false c) (h j hj)
 rw[e]
 constructor
 · intro h
   refine⟨?_,fun x hx=>?_⟩
   · have key:∀d i,i+d+1<l.length→nth l i<nth l (i+d+1):=by
      intro d
      induction d with
      | zero=>intro i hi;have:=(h (i+0+1) hi).2.2 (by omega);simpa using this
      | succ d ih=>
        intro i hi
        have a:=ih i (by omega)
        have b:=(h (i+(d+1)+1) hi).2.2 (by omega)
        rw[show i+(d+1)+1-1=i+d+1 by omega]at b
        omega
     rw[List.pairwise_iff_getElem]
     intro i j hi hj hij
     have:=key (j-i-1) i (by omega)
     rw[show i+(j-i-1)+1=j by omega,fw (aLc hi),fw (aLc hj)]at this
     exact this
   · obtain⟨j,hj⟩:=aLf.1 hx
     have:=h j (aLe.1 hj).1
     rw[fw hj]at this
     exact⟨this.1,this.2.1⟩
 · rintro ⟨h1,h2⟩ j hj
   refine⟨(h2 _ (aI hj)).1,(h2 _ (aI hj)).2,fun h0=>?_⟩
   have:=(List.pairwise_iff_getElem.1 h1) (j-1) j (by omega) hj (by omega)
   rwa [← fw (aLc (by omega:j-1<l.length)),←fw (aLc hj)]at this
end Go.Ev
namespace Go.Ev
open Go
variable [Lib] [aZ] [bc] [cL] [cM] [dG] [dE]
@[go_sem] theorem ahn (H : ae) (len j : Nat) (ts : List T) (h : j < len) : Ye H len 1 false (.t (.agg ts)) j = (ts[j]?).map fun t => (.t t, H) := by
 have h0:len≠0:=by omega
 unfold Ye xy
 rw[if_neg h0,if_pos h]
 unfold qO cut
 simp only[D.isAgg,D.cells,T.cells,if_true,Nat.mul_one,List.length_map]
 by_cases hj:j<ts.length
 · rw[if_pos (by omega),aLc hj]
   have e:((ts.map D.t).drop j).take 1=[D.t ts[j]]:=by
    rw[List.drop_eq_getElem_cons (by simpa using hj)];simp
   rw[e];rfl
 · rw[if_neg (by omega),aLm (by omega)];rfl
section
variable (a0 a1 a2 a3 a4 a5 x y : Obj) (ds : ae)
end
@[go_sem] theorem ac9 (n : Nat) : eqB n n = true := by
 induction n with
 | zero=>rfl
 | succ n ih=>exact ih
end Go.Ev
namespace Go.Ev
open Go
variable [Lib] [aZ] [bc] [cG] [cJ] [cL] [cM] [dG] [dE]
end Go.Ev
namespace Go.Ev
open Go
variable [Lib] [aZ] [bc] [cG] [cJ] [eC] [cL] [cM] [dG] [dE] [bI] [bM]
end Go.Ev
namespace Go.Ev
open Go
variable [Lib] [aZ] [bc]
theorem mO{α:Type} [Dat α](l:List α)(k:Nat)(hk:k<l.length)(x:α)(j:Nat):nth (l.set k x) j=if j=k then x else nth l j:=by
 unfold nth
 by_cases h:j=k
 · subst h;rw[if_pos rfl];simp[hk]
 · rw[if_neg h]
   have:¬k=j:=fun e=>h e.symm
   simp[List.getElem?_set,this]
section
variable {m : aK} (h : m.ok) {t : Int} {into : Option (List Int)}
include h
end
end Go.Ev
namespace Go.Ev
open Go
variable [Lib] [aZ] [bc] [dG] [dE]
theorem wA{l:List Int}{n:Int}(h:ud l n=true):∀x∈l,0≤x∧x<n:=by
 intro x hx
 simp only[ud,aLx,aLu,decide_eq_true_eq]at h
 obtain⟨j,hj⟩:=aLf.1 hx
 have:=h j (aLe.1 hj).1
 rw[fw hj]at this
 exact⟨this.1,this.2.1⟩
end Go.Ev
namespace Go.Ev
open Go
variable [Lib] [aZ] [bc] [cG] [cJ] [cL] [cM] [dG] [dE]
end Go.Ev
namespace Go.Ev
open Go
variable [Lib] [aZ] [bc]
section
variable {m : aK} (hm : m.ok) {N : Nat} {b : Bel} (hb : BOk m N b) {s : Wh} (hs : s.frm.length = m.aa.length) {l : List Mch}
variable (hl : ∀ y ∈ l, y.pl.length ≤ m.aa.length ∧ 1 ≤ y.pl.length ∧ ∀ x ∈ y.pl, 0 ≤ x ∧ x < m.aa.length) {t a : Int} (t0 : 0 ≤ t) (t1 : t ≤ 10000) (a0 : 0 ≤ a) (a1 : a ≤ 10000) (d : ax)
include hm hb hs hl t0 t1 a0 a1
omit hm hb t0 t1 a1 in
end
def ax.skip(d:ax)(n:Int):Nat→ax
 | 0=>d
 | k+1=>((d.skip n k).next n).2
end Go.Ev
namespace Go.Ev
open Go
variable [Lib] [aZ] [bc] [eC]
end Go.Ev
namespace Go.Ev
open Go
variable [Lib] [aZ] [bc] [cG] [cJ] [eC] [cL] [cM] [dG] [dE]
end Go.Ev
namespace Go.Ev
open Go
variable [Lib] [aZ] [bc] [cG] [cJ] [eC] [cL] [cM] [dG] [dE] [bI] [bM]
def lexB:List Int→List Int→Bool
 | _,[]=>false
 | [],_::_=>true
 | a::r,b::s=>decide (a<b)||(decide (a=b)&&lexB r s)
structure WV(m:aK)(first:List Int)(x:World):Prop where
 pm:x.tags.Perm first
 wl:x.whr.length=first.length
 wv:∀w∈x.whr,AL m w=true
structure BV(m:aK)(first:List Int)(ws:List World):Prop where
 pr:Cx first=true
 f1:1≤first.length
 f2:first.length≤12
 wv:∀x∈ws,WV m first x
 up:ws.Pairwise fun x y=>lexB x.tags y.tags=true
end Go.Ev
namespace Go.Ev.N
def Gd:Nat:=271
def Jh:Nat:=272
def CH:Nat:=273
def G9:Nat:=274
def KW:Nat:=275
def Ji:Nat:=276
def SY:Nat:=277
def SZ:Nat:=278
def Ww:Nat:=279
def Wx:Nat:=280
def KX:Nat:=281
def aaf:Nat:=282
def O6:Nat:=283
def S0:Nat:=284
def S1:Nat:=285
def Wy:Nat:=286
def sC:Nat:=287
def Wz:Nat:=288
def S2:Nat:=289
def S3:Nat:=290
def S4:Nat:=291
def S5:Nat:=292
def KY:Nat:=293
def S6:Nat:=294
def S7:Nat:=295
def O7:Nat:=296
def rK:Nat:=297
def rL:Nat:=298
def MJ:Nat:=299
def x8:Nat:=300
def nE:Nat:=301
def qv:Nat:=302
def uf:Nat:=303
def pF:Nat:=304
def sD:Nat:=305
def uh:Nat:=306
def rM:Nat:=307
def KZ:Nat:=308
end Go.Ev.N
namespace Go.Ev.K
open Go.Ev
end Go.Ev.K
namespace Go.Ev
class cA [Lib]:Prop where
namespace K
variable [Lib] [cA]
end K
end Go.Ev
namespace Go.Ev.K
open Go.Ev
end Go.Ev.K
namespace Go.Ev
class cB [Lib]:Prop where
namespace K
variable [Lib] [cB]
end K
end Go.Ev
namespace Go.Ev
open Go
variable [Lib] [aZ] [bc] [cG] [cJ] [eC] [cL] [cM] [dG] [dE] [bI] [bM] [cA] [cB]
end Go.Ev
namespace Go.Ev
open Go
variable [Lib] [aZ] [bc] [cG] [cJ] [eC] [cL] [cM] [dG] [dE]
end Go.Ev
namespace Go.Ev
open Go
variable [Lib] [aZ] [bc] [cG] [cJ] [eC] [cL] [cM] [dG] [dE] [bI] [bM]
structure SH(n p:Nat)(l:List Wh):Prop where
 ln:l.length=n
 fr:∀w∈l,w.frm.length=p
theorem WV.sh{m:aK}{first:List Int}{x:World}(h:WV m first x):SH first.length m.aa.length x.whr:=
 ⟨h.wl,fun w hw=>(Cw (h.wv w hw)).1⟩
end Go.Ev
namespace Go.Ev
open Go
variable [Lib] [aZ] [bc] [cG] [cJ] [eC] [cL] [cM] [dG] [dE] [bI] [bM] [cA] [cB]
theorem Rp.more{H:ae}{id:Nat}{es:List D}{fa fb:Nat→Nat}{out:List World}(hr:Rp H id es fa fb out)(t:ae):Rp (H++t) id es fa fb out:=
 ⟨by rw[ue (yT hr.arr)];exact hr.arr,hr.len,hr.el,fun j hj=>by rw[ue (yT (hr.ha j hj))];exact hr.ha j hj,fun j hj=>by rw[ue (yT (hr.hb j hj))];exact hr.hb j hj,hr.na,hr.nb,hr.nab,hr.nbb⟩
end Go.Ev
namespace Go.Ev
open Go
variable [Lib] [aZ] [bc] [cG] [cJ] [eC] [cL] [cM] [dG] [dE] [bI] [bM]
end Go.Ev
namespace Go.Ev
open Go
variable [Lib] [aZ] [bc] [cL] [cM]
abbrev MK:Int:=2147483648
section
variable {m : aK} (h : m.ok) {fl : List Spn}
include h
end
end Go.Ev
namespace Go.Ev
open Go
def clP(m:aK)(fl:List Spn)(y:List Int):Prop:=∀k,k<m.roads.length→∀back,0≤tc (nth m.roads k) (nth fl k) back→
 nth y ((nth m.roads k).src back).toNat+tc (nth m.roads k) (nth fl k) back≤MK→
 nth y ((nth m.roads k).dst back).toNat≤nth y ((nth m.roads k).src back).toNat+tc (nth m.roads k) (nth fl k) back
variable [Lib] [aZ] [bc] [cL] [cM]
end Go.Ev
namespace Go.Ev
open Go
variable [Lib] [aZ] [bc] [cL] [cM]
def af1(l:List Int):Prop:=∀x∈l,0≤x∧(x≤MK∨x=1099511627776)
theorem af1.bnd{l:List Int}(h:af1 l):bnd l:=fun x hx=>by have:=h x hx;simp only[MK]at this;omega
end Go.Ev
namespace Go.Ev
open Go
variable [Lib] [aZ] [bc] [cG] [cJ] [cL] [cM]
theorem Er{l:List Int}{n:Int}(h:ud l n=true):∀x∈l,0≤x∧x<n:=by
 intro x hx
 simp only[ud,aLx,aLu,decide_eq_true_eq]at h
 obtain⟨j,hj⟩:=aLf.1 hx
 have:=h j (aLe.1 hj).1
 rw[fw hj]at this
 exact⟨this.1,this.2.1⟩
theorem O8{p:Int}{n:Int}(h0:0≤p)(h1:p<n):ud [p] n=true:=by
 simp only[ud,aLx,aLu,decide_eq_true_eq]
 intro j hj
 obtain rfl:j=0:=by simpa using hj
 exact⟨h0,h1,fun h=>absurd h (by omega)⟩
structure aag(m:aK)(fl:List Spn)(s:Wh):Prop where
 ln:s.frm.length=m.aa.length
 ti:inT s.time
 tm:af1 s.frm
 lo:∀x∈s.frm,s.time≤x
 cl:clP m fl s.frm
theorem aag.valid{m:aK}{fl:List Spn}{s:Wh}(h:aag m fl s):IJ m s=true:=by
 simp only[IJ,aLr,decide_eq_true_eq,aLx,aLu]
 refine⟨fun j hj=>?_,h.ln,h.ti⟩
 have a:=h.tm _ (aI hj)
 have b:=h.lo _ (aI hj)
 unfold plS
 simp only[MK]at a
 omega
end Go.Ev
namespace Go.Ev
open Go
variable [Lib] [aZ] [bc] [cG] [cJ] [eC] [cL] [cM] [dG] [dE] [bI] [bM]
section
variable {m : aK} (hm : m.ok) (l : List Mch) (hl : l.length ≤ 1000) (hp : ∀ x ∈ l, x.pl.length ≤ 1000000) (s : Wh) (hs : s.frm.length ≤ 1000000) (b : Bel) (hb : b.sz) (t a : Int)
include hm hl hp hs hb
end
end Go.Ev
namespace Go.Ev
open Go
variable [Lib] [aZ] [bc] [cG] [cJ] [cL] [cM]
theorem aah{d:ax}(hd:d.cy)(n:Nat)(hn:n≤1000000):
 ∃(l:List Int) (e:ax),aG 0 N.b8 [.bp 0 0,I n] [d.obj]=some (.t (tL l),[e.obj])∧e.cy∧l.length≤n:=
 ⟨_,_,RP d n hn hd,ax.qq hd n,d.wc n⟩
end Go.Ev
namespace Go.Ev
open Go
variable [Lib] [aZ] [bc]
def sh(s x:Int):Int:=if x<1099511627776 then x+s else x
def shL(s:Int)(l:List Int):List Int:=l.map (sh s)
@[simp] theorem af2 (s : Int) (l : List Int) : (shL s l).length = l.length := List.length_map ..
end Go.Ev
namespace Go.Ev
open Go
variable [Lib] [aZ] [bc] [cG] [cJ] [eC] [cL] [cM] [dG] [dE]
end Go.Ev
namespace Go.Ev
open Go
variable [Lib] [aZ] [bc] [cG] [cJ] [eC] [cL] [cM] [dG] [dE] [bI] [bM]
end Go.Ev
namespace Go.Ev
open Go
variable [Lib] [aZ] [bc] [cG] [cJ] [eC] [cL] [cM] [dG] [dE] [bI] [bM] [cA] [cB]
end Go.Ev
namespace Go.Ev.N
def O9:Nat:=309
def Jj:Nat:=310
def K0:Nat:=311
def K5:Nat:=312
def Jk:Nat:=313
def S8:Nat:=314
def af3:Nat:=315
def aai:Nat:=316
def S9:Nat:=317
def Ta:Nat:=318
def Tc:Nat:=319
def Td:Nat:=320
def aaj:Nat:=321
def aak:Nat:=322
def Te:Nat:=323
def ML:Nat:=324
def aal:Nat:=325
def ada:Nat:=326
def K6:Nat:=327
def Pa:Nat:=328
def MM:Nat:=329
def sE:Nat:=330
def ui:Nat:=331
def MN:Nat:=332
def Jl:Nat:=333
end Go.Ev.N
namespace Go.Ev.N
def Ge:Nat:=334
def Hc:Nat:=335
def Hd:Nat:=336
def Tf:Nat:=337
def Gf:Nat:=338
def Tg:Nat:=339
def Th:Nat:=340
def WA:Nat:=341
def Ti:Nat:=342
def WB:Nat:=343
def WC:Nat:=344
def adb:Nat:=345
def K7:Nat:=346
def Tj:Nat:=347
def WD:Nat:=348
def WE:Nat:=349
def Jm:Nat:=350
def MO:Nat:=351
def Pb:Nat:=352
def Pc:Nat:=353
def Tk:Nat:=354
def K8:Nat:=355
def WG:Nat:=356
def WH:Nat:=357
def MP:Nat:=358
def Pd:Nat:=359
def Tl:Nat:=360
def WI:Nat:=361
def Tm:Nat:=362
def MQ:Nat:=363
def Tn:Nat:=364
def WJ:Nat:=365
def WK:Nat:=366
def WL:Nat:=367
def WM:Nat:=368
def Gg:Nat:=369
def kY:Nat:=370
def qL:Nat:=371
def MR:Nat:=372
def nF:Nat:=373
def MS:Nat:=374
def MT:Nat:=375
def To:Nat:=376
def Tp:Nat:=377
def K9:Nat:=378
def mr:Nat:=379
def pq:Nat:=380
def Jn:Nat:=381
def MU:Nat:=382
def Jo:Nat:=383
end Go.Ev.N
namespace Go.Ev.N
def MV:Nat:=384
def La:Nat:=385
def Jp:Nat:=386
def Lb:Nat:=387
def Jq:Nat:=388
def Tq:Nat:=389
def Ts:Nat:=390
def WN:Nat:=391
def He:Nat:=392
def Tt:Nat:=393
def Tu:Nat:=394
def Hf:Nat:=395
def WO:Nat:=396
def Hg:Nat:=397
def Gi:Nat:=398
def aam:Nat:=399
def WQ:Nat:=400
def WR:Nat:=401
def Jr:Nat:=402
def WT:Nat:=403
def aan:Nat:=404
def WU:Nat:=405
def WW:Nat:=406
def aao:Nat:=407
def Es:Nat:=408
def Et:Nat:=409
def WX:Nat:=410
def aap:Nat:=411
def Pe:Nat:=412
def zB:Nat:=413
def aaq:Nat:=414
def ya:Nat:=415
end Go.Ev.N
namespace Go.Ev.N
def AV:Nat:=416
def BJ:Nat:=417
def BK:Nat:=418
def AX:Nat:=419
def Tv:Nat:=420
def bY:Nat:=421
def Gj:Nat:=422
def Pf:Nat:=423
def Hh:Nat:=424
def Hi:Nat:=425
def Tw:Nat:=426
def Hj:Nat:=427
def Eu:Nat:=428
def Hk:Nat:=429
def w7:Nat:=430
def CI:Nat:=431
def aar:Nat:=432
def gV:Nat:=433
def WY:Nat:=434
def Ew:Nat:=435
def fP:Nat:=436
def Ey:Nat:=437
def Tx:Nat:=438
def Ty:Nat:=439
def Tz:Nat:=440
def Pg:Nat:=441
def TA:Nat:=442
def TC:Nat:=443
def Ez:Nat:=444
def dQ:Nat:=445
def MW:Nat:=446
def c9:Nat:=447
def dX:Nat:=448
def df:Nat:=449
def dg:Nat:=450
def ade:Nat:=451
def jh:Nat:=452
def gW:Nat:=453
def AY:Nat:=454
def aB:Nat:=455
def dJ:Nat:=456
def fJ:Nat:=457
def WZ:Nat:=458
def aas:Nat:=459
def Hl:Nat:=460
def pG:Nat:=461
def W4:Nat:=462
def fL:Nat:=463
def CJ:Nat:=464
def dK:Nat:=465
def Gk:Nat:=466
def pW:Nat:=467
def EA:Nat:=468
def EB:Nat:=469
def gX:Nat:=470
def Lc:Nat:=471
end Go.Ev.N
namespace Go.Ev.N
def Js:Nat:=472
def Ld:Nat:=473
def Jt:Nat:=474
end Go.Ev.N
namespace Go.Ev.K
open Go.Ev
end Go.Ev.K
namespace Go.Ev
class gY [Lib]:Prop where
namespace K
variable [Lib] [gY]
end K
end Go.Ev
namespace Go.Ev
open Go
variable [Lib] [aZ] [bc] [cG] [cJ] [eC] [cL] [cM] [dG] [dE] [bI] [bM] [cA] [cB] [gY]
end Go.Ev
namespace Go.Ev.N
def Ju:Nat:=475
def Gl:Nat:=476
def Gm:Nat:=477
def CK:Nat:=478
def eQ:Nat:=479
def eR:Nat:=480
def dL:Nat:=481
def cq:Nat:=482
def bR:Nat:=483
def cU:Nat:=484
def bW:Nat:=485
def du:Nat:=486
def fQ:Nat:=487
def dY:Nat:=488
def az:Nat:=489
def b6:Nat:=490
def cC:Nat:=491
def bP:Nat:=492
def dM:Nat:=493
def bB:Nat:=494
def cO:Nat:=495
def fg:Nat:=496
def eF:Nat:=497
def bu:Nat:=498
def ai:Nat:=499
def bZ:Nat:=500
def aM:Nat:=501
def au:Nat:=502
def aY:Nat:=503
end Go.Ev.N
namespace Go.Ev.K
open Go.Ev
def eQ:Fn:= { bo:=0,vars:=[0,1,2,3],body:=(q [x 0 (.b false)] [] (q [u (.bs [.i 0,.i 1] 1),u (.bs [.i 0] 1),u (.bs [.l 1,.l 0] 1),u (.bs [.i 1,.i 1] 1),u (.ca N.cq 0 [] [.l 1,.l 0]),m l0,u (.ex l0 0),u (.ex l1 1),x 1 l1,x 2 l1] [] (q [u (.bs [.i 0] 1),u (.bs [.i 0] 1),u (.bs [.l 1,.l 0] 1),u (.bs [.i 1] 1),u (.ca N.cU 0 [] [.l 1,.l 0]),x 3 l0] [] (q [u (.bs [.i 0] 1),u (.bs [.i 0] 1),u (.bs [.l 1,.l 0] 1),u (.bs [.i 1] 1),u (.ca N.bR 0 [] [.l 1,.l 0]),u (.bin .eql l0 (.i 1)),m l0,e 0 true v2,u (.pk l1 l0 (.b false)),m l0,e 0 true v1,y 1 true (.ln l0),y 2 true (.bin .eql l0 (.i 2)),u (.pk l3 l0 (.b false)),m l0,e 0 true v1,y 1 true (.ia l0 (.i 0) 1),i 2 true l0,y 3 true (.bin .eql l0 (.i 1)),u (.pk l4 l0 (.b false)),m l0,e 0 true v1,y 1 true (.ia l0 (.i 1) 1),i 2 true l0,y 3 true (.bin .eql l0 (.i 0)),u (.pk l4 l0 (.b false)),m l0,e 0 true v3,y 1 true (.ln l0),y 2 true (.bin .eql l0 (.i 2)),u (.pk l3 l0 (.b false)),x 0 l0] [] .ret)))),res:=[(0,none)]}
def eR:Fn:= { bo:=2,vars:=[0,1,4,5,6,7,8],body:=(q [x 2 (.b false)] [] (q [m v0,m v1,u (.ca N.cq 0 [] [.l 1,.l 0]),m l0,u (.ex l0 0),u (.ex l1 1),x 3 l1,x 4 l1] [] (q [m v0,m v1,u (.ca N.du 0 [] [.l 1,.l 0]),m l0,u (.ex l0 0),u (.ex l1 1),x 5 l1,x 6 l1] [] (q [m v0,m v1,u (.ca N.bR 0 [] [.l 1,.l 0]),m v0,m v1,u (.ca N.fQ 0 [] [.l 1,.l 0]),u (.bin .eql l3 l0),m l0,e 0 true v4,e 1 true v6,y 2 true (.eqk (.bool) false l1 l0),u (.pk l3 l0 (.b false)),m l0,e 0 true v3,e 1 true v5,y 2 true (.ca N.bE 0 [] [.l 1,.l 0]),u (.pk l3 l0 (.b false)),m l0,e 0 true v0,e 1 true v1,y 2 true (.ca N.cU 0 [] [.l 1,.l 0]),e 3 true v0,e 4 true v1,y 5 true (.ca N.dY 0 [] [.l 1,.l 0]),y 6 true (.ca N.bE 0 [] [.l 3,.l 0]),u (.pk l7 l0 (.b false)),x 2 l0] [] .ret)))),res:=[(2,none)]}
def jE:C:= (.seq (.ite [m v4,u (.bin .gtr l0 (.i 0))] [] 0 .skip (.exit 0)) (.seq (.blk 1 (.reg [m v3,m v0,u (.ca N.cF 0 [] [.l 0]),u (.bs [.l 0] 1),u (.app l3 l0 true 1),x 3 l0] [])) (.reg [m v4,u (.bin .sub l0 (.i 1)),x 4 l0] [])))
def ox:C:= .loop true [1,2,5,6] K.jE
def jF:C:= (.seq (.ite [m v6,u (.bin .gtr l0 (.i 0))] [] 0 .skip (.exit 2)) (.seq (.blk 3 (.reg [m v5,m v0,u (.bs [.i 1,.i 0,.i 2,.i (-1),.i 100] 1),u (.ca N.bh 0 [] [.l 1,.l 0]),u (.bs [.l 0] 1),u (.app l4 l0 true 1),x 5 l0] [])) (.reg [m v6,u (.bin .sub l0 (.i 1)),x 6 l0] [])))
def oy:C:= .loop true [1,2,4] K.jF
def dL:Fn:= { bo:=1,vars:=[0,2,3,4,5,6,7],body:=(q [w 1 (.mv (.c (.nil))),w 2 (.mv (.c (.nil)))] [] (q [w 3 (.nw 1)] [] (.seq (q [m v0,u (.ca N.aq 0 [] [.l 0,.i 7]),x 4 l0] [] (.blk 0 K.ox)) (q [w 5 (.nw 1)] [] (.seq (q [m v0,u (.ca N.aq 0 [] [.l 0,.i 6]),x 6 l0] [] (.blk 2 K.oy)) (q [m v3,m v5,x 1 l1,x 2 l1] [] .ret)))))),res:=[(1,none),(2,none)]}
def di:C:= (.its [u (.bin .lss v14 v13)] [] 0 .skip (.exit 2) (.seq (.blk 3 (q [a 1 v12 v14,g l0,x 8 l0] [] (.seq (.ite [m v8,m v4,u (.ln l0),u (.bin .sub l0 (.i 1)),u (.ca N.gn 0 [] [.l 3,.i 0,.l 0]),u (.un .not l0),m l0,e 0 false v4,e 1 false v8,y 2 false (.ia l1 l0 1),i 3 false l0,y 4 false (.bin .lss l0 (.i 1)),u (.pk l5 (.b true) l0)] [] 0 (.exit 3) .skip) (q [m v4,m v8,a 1 l1 l0,g l0,u (.bin .sub l0 (.i 1)),a 1 l4 l3,u (.st l0 l1 1 [])] [] (.seq (.ite [m v0,m v6,u (.bin .add l0 (.i 1)),u (.sc l2 (some l0) none 1),m v4,u (.ca N.bR 0 [] [.l 1,.l 0]),m v0,u (.ln l0),m v6,u (.bin .sub l1 l0),u (.bin .sub l0 (.i 1)),u (.bin .eql l5 l0)] [] 0 (q [m v5,m v8,u (.bs [.l 0] 1),u (.app l2 l0 true 1),x 5 l0] [] (.exit 2)) .skip) (.reg [m v4,m v8,a 1 l1 l0,g l0,u (.bin .add l0 (.i 1)),a 1 l4 l3,u (.st l0 l1 1 [])] [])))))) (.reg [u (.bin .add v14 (.i 1)),x 14 l0] [])))
def jG:C:= .loop true [1,2,3,7,8] K.di
def fh:C:= (.its [u (.bin .lss v11 v10)] [] 0 .skip (.exit 0) (.seq (.blk 1 (q [m v11,a 1 v9 v11,g l0,x 6 l2,x 7 l1] [] (q [m v7,u (.ca N.aS 0 [] [.l 0]),u (.ca N.aY 0 [] [.l 0]),w 12 (.ca N.aB 1 [0] [.l 0]),w 13 (.ln l0),x 14 (.i 0)] [] (.blk 2 K.jG)))) (.reg [u (.bin .add v11 (.i 1)),x 11 l0] [])))
def ny:C:= .loop true [1,2,3,6,7,8,12,13,14] K.fh
def cq:Fn:= { bo:=2,vars:=[0,1,4,5,6,7,8,9,11,20,21,22,30,31,32],body:=(q [w 2 (.mv (.c (.nil))),x 3 (.b false)] [] (.seq (.ite [m v0,m v1,u (.ca N.bR 0 [] [.l 1,.l 0]),m v0,u (.ln l0),u (.bin .lss l2 l0)] [] 0 (q [w 2 (.mv (.c (.nil))),x 3 (.b false)] [] .ret) .skip) (q [m v1,u (.ca N.aQ 1 [] [.l 0]),x 4 l0] [] (q [w 5 (.nw 1)] [] (.seq (q [x 9 v0,w 10 (.ln l0),x 11 (.i 0)] [] (.blk 0 K.ny)) (q [m v5,x 2 l0,x 3 (.b true)] [] .ret)))))),res:=[(2,none),(3,none)]}
def iQ:C:= (.its [u (.bin .lss v7 v6)] [] 0 .skip (.exit 0) (.seq (.blk 1 (q [m v7,x 5 l0] [] (.ite [m v5,m v1,u (.ln l0),u (.mk l0 (z1) 1),u (.ca N.az 0 [2] [.v 3,.l 3,.l 0])] [] 0 (.reg [m v4,u (.bin .add l0 (.i 1)),x 4 l0] []) .skip))) (.reg [u (.bin .add v7 (.i 1)),x 7 l0] [])))
def pX:C:= .loop false [0,2,5] K.iQ
def bR:Fn:= { bo:=2,vars:=[0,1,4,5,6,7,15,16],body:=(q [x 2 (.i 0)] [] (q [m v0,m v1,m v1,u (.ln l0),u (.mk l0 .nil 1),u (.bd [.nil,.nil,.nil] [(0,1,.l 4),(1,1,.l 3),(2,1,.l 0)]),w 3 (.al [.nil,.nil,.nil] []),u (.st l0 l1 3 [])] [] (q [x 4 (.i 0)] [] (.seq (q [m v0,w 6 (.ln l0),x 7 (.i 0)] [] (.blk 0 K.pX)) (q [m v4,x 2 l0] [] .ret))))),res:=[(2,none)]}
def ig:C:= (.seq (.ite [m v3,m v0,u (.ln l0),u (.mn [.l 0,.i 12]),u (.bin .leq l3 l0)] [] 0 .skip (.exit 0)) (.seq (.blk 1 (q [m v0,m v1,m v3,u (.ca N.b6 1 [] [.l 2,.l 1,.c (.nil),.i 0,.l 0]),x 4 l0] [] (.ite [m v4,u (.eqk (.sl) true l0 (.c (.nil)))] [] 0 (q [m v4,x 2 l0] [] .ret) .skip))) (.reg [m v3,u (.bin .add l0 (.i 1)),x 3 l0] [])))
def oz:C:= .loop true [2,4] K.ig
def cU:Fn:= { bo:=2,vars:=[0,1,4,5,6],body:=(q [w 2 (.mv (.c (.nil)))] [] (.seq (q [x 3 (.i 1)] [] (.blk 0 K.oz)) (q [w 2 (.mv (.c (.nil)))] [] .ret))),res:=[(2,none)]}
def bW:Fn:= { bo:=4,vars:=[0,1,2,3,4,5,6,7,8,9],body:=(q [w 4 (.bx v0 2),w 5 (.bx v1 4),w 6 (.bx v2 1),w 7 (.bx v3 1),w 8 (.mv (.c (.nil))),x 9 (.i 0)] [] (.seq (.blk 0 (.ite [h 2 v4,h 4 v5,u (.ca N.fP 0 [] [.l 1,.l 0]),u (.un .not l0),m l0,y 0 false (.ld v4 2 true),i 1 false v6,y 2 false (.ca N.cC 0 [] [.l 1,.l 0]),y 3 false (.un .not l0),u (.pk l4 (.b true) l0),m l0] [] 0 (q [w 8 (.mv (.c (.nil))),x 9 (.i 6)] [] .ret) (.ite [g v7,u (.ln l0),u (.bin .eql l0 (.i 0)),m l0,i 0 false v7,y 1 false (.fa v4 0),i 2 false l0,y 3 false (.ln l0),y 4 false (.bin .sub l0 (.i 1)),y 5 false (.ca N.cz 0 [] [.l 4,.i 0,.l 0]),y 6 false (.un .not l0),u (.pk l7 (.b true) l0),m l0] [] 0 (q [w 8 (.mv (.c (.nil))),x 9 (.i 3)] [] .ret) .skip))) (q [g v6,u (.ln l0),u (.mf N.bP [.v 4,.v 5,.v 6,.v 7]),u (.ca N.dV 0 [] [.l 1,.l 0]),x 8 l0,x 9 (.i 0)] [] .ret))),res:=[(8,none),(9,none)]}
def eH:C:= (.seq (.ite [m v7,m v1,u (.ln l0),u (.bin .lss l2 l0)] [] 0 .skip (.exit 2)) (.seq (.blk 3 (.seq (.ite [m v0,m v6,a 1 l1 l0,g l0,m v7,u (.ca N.cH 0 [] [.l 1,.l 0]),u (.un .not l0),m l0,e 0 false v4,e 1 false v7,y 2 false (.ia l1 l0 1),i 3 false l0,y 4 false (.bin .leq l0 (.i 0)),u (.pk l5 (.b true) l0)] [] 0 (.exit 3) .skip) (q [m v4,m v7,a 1 l1 l0,g l0,u (.bin .sub l0 (.i 1)),a 1 l4 l3,u (.st l0 l1 1 [])] [] (.seq (.ite [m v0,m v6,u (.bin .add l0 (.i 1)),u (.sc l2 (some l0) none 1),m v4,u (.ca N.cO 0 [] [.l 1,.l 0])] [] 0 (q [m v5,m v7,u (.bs [.l 0] 1),u (.app l2 l0 true 1),x 5 l0] [] (.exit 2)) .skip) (.reg [m v4,m v7,a 1 l1 l0,g l0,u (.bin .add l0 (.i 1)),a 1 l4 l3,u (.st l0 l1 1 [])] []))))) (.reg [m v7,u (.bin .add l0 (.i 1)),x 7 l0] [])))
def oA:C:= .loop true [2,3] K.eH
def ij:C:= (.seq (.ite [m v6,m v0,u (.ln l0),u (.bin .lss l2 l0)] [] 0 .skip (.exit 0)) (.seq (.blk 1 (q [x 7 (.i 0)] [] (.blk 2 K.oA))) (.reg [m v6,u (.bin .add l0 (.i 1)),x 6 l0] [])))
def oB:C:= .loop true [2,3,7] K.ij
def du:Fn:= { bo:=2,vars:=[0,1,4,5,6,7,8,9],body:=(q [w 2 (.mv (.c (.nil))),x 3 (.b false)] [] (.seq (.ite [m v0,m v1,u (.ca N.cO 0 [] [.l 1,.l 0]),u (.un .not l0)] [] 0 (q [w 2 (.mv (.c (.nil))),x 3 (.b false)] [] .ret) .skip) (q [m v1,u (.app (.c (.nil)) l0 true 1),x 4 l0] [] (q [w 5 (.nw 1)] [] (.seq (q [x 6 (.i 0)] [] (.blk 0 K.oB)) (q [m v5,x 2 l0,x 3 (.b true)] [] .ret)))))),res:=[(2,none),(3,none)]}
def fR:C:= (.seq (.ite [m v9,m v5,m v8,a 1 l1 l0,g l0,u (.ln l0),u (.bin .lss l5 l0)] [] 0 .skip (.exit 4)) (.seq (.blk 5 (q [m v5,m v8,a 1 l1 l0,g l0,m v9,a 1 l1 l0,g l0,x 10 l0] [] (.ite [m v10,u (.bin .geq l0 (.i 0)),m l0,e 0 true v10,e 1 true v1,y 2 true (.ln l0),y 3 true (.bin .lss l2 l0),u (.pk l4 l0 (.b false)),m l0,e 0 true v7,e 1 true v10,y 2 true (.ca N.cH 0 [] [.l 1,.l 0]),y 3 true (.un .not l0),u (.pk l4 l0 (.b false))] [] 0 (.reg [m v7,m v10,u (.bs [.l 0] 1),u (.app l2 l0 true 1),m v6,m v1,m v10,a 1 l1 l0,g l0,u (.mn [.l 0,.i 12]),u (.mx [.i 0,.l 0]),u (.bin .add l6 l0),x 7 l8,x 6 l1] [(7,0),(7,3),(8,0),(8,3)]) .skip))) (.reg [m v9,u (.bin .add l0 (.i 1)),x 9 l0] [])))
def mP:C:= .loop true [2,10] K.fR
def kZ:C:= (.seq (.ite [m v8,m v5,u (.ln l0),u (.bin .lss l2 l0)] [] 0 .skip (.exit 2)) (.seq (.blk 3 (q [x 9 (.i 0)] [] (.blk 4 K.mP))) (.reg [m v8,u (.bin .add l0 (.i 1)),x 8 l0] [])))
def rN:C:= .loop true [2,9,10] K.kZ
def lk:C:= (.seq (.ite [m v4,m v0,u (.ln l0),u (.cv .u64 l0),u (.bin .shl (.i 1) l0),u (.bin .lss l4 l0)] [] 0 .skip (.exit 0)) (.seq (.blk 1 (q [m v0,m v4,u (.ca N.fg 0 [] [.l 1,.l 0]),x 5 l0] [] (q [x 6 (.i 0)] [] (q [w 7 (.nw 1)] [] (.seq (q [x 8 (.i 0)] [] (.blk 2 K.rN)) (.reg [m v3,m v5,u (.ln l0),m v6,u (.bin .sub l1 l0),u (.mx [.l 4,.l 0]),x 3 l0] [])))))) (.reg [m v4,u (.bin .add l0 (.i 1)),x 4 l0] [])))
def rO:C:= .loop true [2,5,6,7,8,9,10] K.lk
def fQ:Fn:= { bo:=2,vars:=[0,1,4,5,6,7,8,9,10,11,12],body:=(q [x 2 (.i 0)] [] (q [x 3 (.i 0)] [] (.seq (q [x 4 (.i 1)] [] (.blk 0 K.rO)) (q [m v0,u (.ln l0),m v3,u (.bin .sub l1 l0),x 2 l0] [] .ret)))),res:=[(2,none)]}
def iR:C:= (.seq (.ite [m v6,m v0,u (.ln l0),u (.bin .lss l2 l0)] [] 0 .skip (.exit 2)) (.seq (.blk 3 (.ite [m v4,m v6,u (.cv .u64 l0),u (.bin .shr l2 l0),u (.bin .and l0 (.i 1)),u (.bin .eql l0 (.i 1))] [] 0 (.reg [m v5,m v6,u (.bs [.l 0] 1),u (.app l2 l0 true 1),x 5 l0] []) .skip)) (.reg [m v6,u (.bin .add l0 (.i 1)),x 6 l0] [])))
def pY:C:= .loop false [2] K.iR
def cn:C:= (.seq (.ite [m v4,m v0,u (.ln l0),u (.cv .u64 l0),u (.bin .shl (.i 1) l0),u (.bin .lss l4 l0)] [] 0 .skip (.exit 0)) (.seq (.blk 1 (q [w 5 (.nw 1)] [] (.seq (q [x 6 (.i 0)] [] (.blk 2 K.pY)) (.seq (.ite [m v3,u (.eqk (.sl) true l0 (.c (.nil))),m l0,e 0 true v5,y 1 true (.ln l0),e 2 true v3,y 3 true (.ln l0),y 4 true (.bin .gtr l2 l0),e 5 true l0,e 0 false v5,y 1 false (.ln l0),e 2 false v3,y 3 false (.ln l0),y 4 false (.bin .eql l2 l0),e 5 false l0,e 0 true v5,e 1 true v3,y 2 true (.ca N.eF 0 [] [.l 1,.l 0]),y 3 true (.un .not l0),y 10 false (.pk l4 l0 (.b false)),y 17 true (.pk l11 (.b true) l0),u (.pk (.l 18) l0 (.b false)),m l0,e 0 false v0,e 1 false v4,y 2 false (.ca N.fg 0 [] [.l 1,.l 0]),e 3 false v1,y 4 false (.ca N.cO 0 [] [.l 1,.l 0]),u (.pk l5 (.b true) l0)] [] 0 (.exit 1) .skip) (.reg [m v5,x 3 l0] []))))) (.reg [m v4,u (.bin .add l0 (.i 1)),x 4 l0] [])))
def pZ:C:= .loop false [2,5,6] K.cn
def dY:Fn:= { bo:=2,vars:=[0,1,4,5,6,7,8],body:=(q [w 2 (.mv (.c (.nil)))] [] (q [w 3 (.mv (.c (.nil)))] [] (.seq (q [x 4 (.i 1)] [] (.blk 0 K.pZ)) (q [m v3,x 2 l0] [] .ret)))),res:=[(2,none)]}
def cY:C:= (.its [u (.bin .lss v12 v11)] [] 0 .skip (.exit 2) (.seq (.blk 3 (q [m v12,a 1 v10 v12,g l0,x 5 l2,x 6 l1] [] (.ite [m v0,m v6,m v2,u (.ca N.az 0 [2] [.l 2,.l 1,.l 0])] [] 0 (q [m v0,u (.nc l0),f 2 l0,g l0,m v4,a 1 l1 l0,g l0,m v5,m v1,a 1 l2 l1,u (.st l0 l1 1 [])] [] (q [x 3 (.b true)] [] .ret)) .skip))) (.reg [u (.bin .add v12 (.i 1)),x 12 l0] [])))
def jt:C:= .loop true [3,5,6] K.cY
def aF:C:= (.its [u (.bin .lss v9 v8)] [] 0 .skip (.exit 0) (.seq (.blk 1 (q [a 1 v7 v9,g l0,x 4 l0] [] (.seq (.ite [m v4,m v0,u (.nc l0),f 1 l0,g l0,u (.ln l0),u (.bin .sub l0 (.i 1)),u (.ca N.gn 0 [] [.l 6,.i 0,.l 0]),u (.un .not l0),m l0,e 0 false v2,e 1 false v4,y 2 false (.ia l1 l0 1),i 3 false l0,u (.pk l4 (.b true) l0)] [] 0 (.exit 1) .skip) (q [m v2,m v4,a 1 l1 l0,u (.st l0 (.b true) 1 [])] [] (.seq (.ite [m v0,u (.nc l0),f 2 l0,g l0,m v4,a 1 l1 l0,g l0,u (.ln l0),m v0,u (.nc l0),f 1 l0,g l0,m v4,a 1 l1 l0,g l0,u (.bin .lss l7 l0)] [] 0 (q [m v0,u (.nc l0),f 2 l0,g l0,m v4,m v0,u (.nc l0),f 2 l0,g l0,m v4,a 1 l1 l0,g l0,m v1,u (.bs [.l 0] 1),u (.app l2 l0 true 1),a 1 l11 l10,u (.st l0 l1 1 [])] [(3,14),(3,15),(8,14),(10,14),(11,14)] (q [x 3 (.b true)] [] .ret)) .skip) (q [m v0,u (.nc l0),f 2 l0,g l0,m v4,a 1 l1 l0,w 10 (.ld l0 1 false),w 11 (.ln l0),x 12 (.i 0)] [] (.blk 2 K.jt))))))) (.reg [u (.bin .add v9 (.i 1)),x 9 l0] [])))
def ju:C:= .loop true [3,4,5,6,10,11,12] K.aF
def az:Fn:= { bo:=3,vars:=[0,1,2,6,8,9,10,17,18,19,79,80,81],body:=(q [x 3 (.b false)] [] (.seq (q [m v0,u (.nc l0),f 0 l0,g l0,m v1,a 1 l1 l0,w 7 (.ld l0 1 false),w 8 (.ln l0),x 9 (.i 0)] [] (.blk 0 K.ju)) (q [x 3 (.b false)] [] .ret))),res:=[(3,none)]}
def kj:C:= (.its [u (.bin .lss v12 v11)] [] 0 .skip (.exit 0) (.seq (.blk 1 (q [a 1 v10 v12,g l0,x 7 l0] [] (.reg [m v6,m v0,m v7,a 1 l1 l0,g l0,u (.bs [.l 0] 1),u (.app l5 l0 true 1),x 6 l0] []))) (.reg [u (.bin .add v12 (.i 1)),x 12 l0] [])))
def p4:C:= .loop true [3,5,7,8,9] K.kj
def iS:C:= (.seq (.ite [m v8,m v0,u (.ln l0),u (.bin .lss l2 l0)] [] 0 .skip (.exit 2)) (.seq (.blk 3 (q [m v0,m v1,m v2,u (.ca N.bu 1 [] [.l 0]),m v8,u (.bs [.l 0] 1),u (.app l2 l0 true 1),m v8,u (.bin .add l0 (.i 1)),m v4,u (.ca N.b6 1 [] [.l 9,.l 8,.l 3,.l 1,.l 0]),x 9 l0] [] (.ite [m v9,u (.eqk (.sl) true l0 (.c (.nil)))] [] 0 (q [m v9,x 5 l0] [] .ret) .skip))) (.reg [m v8,u (.bin .add l0 (.i 1)),x 8 l0] [])))
def ji:C:= .loop true [3,5,6,7,9,10,11,12] K.iS
def b6:Fn:= { bo:=5,vars:=[0,1,2,3,4,10,11,13,14,15,20,21,22],body:=(q [w 5 (.mv (.c (.nil)))] [] (.seq (.ite [m v2,u (.ln l0),m v4,u (.bin .eql l1 l0)] [] 0 (q [w 6 (.nw 1)] [] (.seq (q [x 10 v2,w 11 (.ln l0),x 12 (.i 0)] [] (.blk 0 K.p4)) (.seq (.ite [m v6,m v1,u (.ca N.bR 0 [] [.l 1,.l 0]),m v4,u (.bin .lss l1 l0)] [] 0 (q [m v2,x 5 l0] [] .ret) .skip) (q [w 5 (.mv (.c (.nil)))] [] .ret)))) .skip) (.seq (q [m v3,x 8 l0] [] (.blk 2 K.ji)) (q [w 5 (.mv (.c (.nil)))] [] .ret)))),res:=[(5,none)]}
def cC:Fn:= { bo:=2,vars:=[0,1,2,4],body:=(q [w 2 (.bx v0 2),x 3 (.b false)] [] (q [h 2 v2,u (.ca N.eE 0 [] [.l 0]),m l0,e 0 true v1,y 1 true (.ln l0),y 2 true (.bin .leq l0 (.i 16)),u (.pk l3 l0 (.b false)),m l0,e 0 true v1,y 1 true (.mf N.bZ [.v 2]),y 2 true (.ca N.ai 0 [] [.l 1,.l 0]),y 3 true (.un .not l0),u (.pk l4 l0 (.b false)),x 3 l0] [] .ret)),res:=[(3,none)]}
def bP:Fn:= { bo:=5,vars:=[0,1,2,3,4,6,7],body:=(q [x 5 (.b false)] [] (q [w 6 (.al [.nil] []),h 2 v1,h 4 v2,g v3,m v0,a 2 l1 l0,f 0 l0,g l0,u (.ca N.dM 0 [] [.l 6,.l 5,.l 0]),u (.st l8 l0 1 [])] [(0,9)] (q [g v4,u (.mf N.bB [.v 6,.v 1,.v 2]),u (.ca N.aA 0 [] [.l 1,.l 0]),u (.un .not l0),x 5 l0] [] .ret))),res:=[(5,none)]}
def bf:C:= (.its [u (.bin .lss v20 (.i 2))] [] 0 .skip (.exit 4) (.seq (.blk 5 (q [u (.ix v19 v20 2 1 false),x 12 l0] [] (q [f 0 v11,g l0,f 1 v11,g l0,x 13 l2,x 14 l1] [] (.seq (.ite [m v12] [] 0 (.reg [m v14,m v13,x 13 l1,x 14 l1] []) .skip) (q [h 2 v3,m v10,m v12,u (.ca N.fL 0 [] [.l 2,.l 1,.l 0]),x 15 l0] [] (.ite [m v15,u (.bin .geq l0 (.i 0)),m l0,e 0 true v7,e 1 true v14,y 2 true (.cw l1 0 [] [.l 0]),u (.pk l3 l0 (.b false)),m l0,y 0 true (.fa v4 1),i 1 true l0,e 2 true v14,y 3 true (.ca N.aE 0 [] [.l 1,.l 0]),y 4 true (.un .not l0),u (.pk l5 l0 (.b false)),m l0,e 0 true v8,e 1 true v14,y 2 true (.ia l1 l0 1),i 3 true l0,e 4 true v15,y 5 true (.bin .add l1 l0),e 6 true v8,e 7 true v13,y 8 true (.ia l1 l0 1),i 9 true l0,y 10 true (.bin .lss l4 l0),u (.pk l11 l0 (.b false))] [] 0 (.reg [m v8,m v13,m v8,m v14,a 1 l1 l0,g l0,m v15,u (.bin .add l1 l0),a 1 l7 l6,u (.st l0 l1 1 []),x 9 (.b true)] []) .skip)))))) (.reg [u (.bin .add v20 (.i 1)),x 20 l0] [])))
def oC:C:= .loop true [0,1,2,5,6,12,13,14,15] K.bf
def im:C:= (.its [u (.bin .lss v18 v17)] [] 0 .skip (.exit 2) (.seq (.blk 3 (q [m v18,a 10 v16 v18,h 10 l0,w 11 (.al [z0,z0,z0,z0,z1,z1,z0,z0,z0,z0] []),x 10 l3,u (.st l1 l2 10 [])] [] (.seq (.ite [f 2 v4,g l0,m v10,u (.ca N.aE 0 [] [.l 1,.l 0])] [] 0 (.exit 3) .skip) (q [w 19 (.bd [z1,z1] [(0,1,.b false),(1,1,.b true)]),x 20 (.i 0)] [] (.blk 4 K.oC))))) (.reg [u (.bin .add v18 (.i 1)),x 18 l0] [])))
def oD:C:= .loop true [0,1,2,5,6,10,11,12,13,14,15,19,20] K.im
def jH:C:= (.seq (.ite [m v9] [] 0 .skip (.exit 0)) (.blk 1 (q [x 9 (.b false)] [] (q [f 1 v3,w 16 (.ld l0 1 false),w 17 (.ln l0),x 18 (.i 0)] [] (.blk 2 K.oD)))))
def oE:C:= .loop true [0,1,2,5,6,10,11,12,13,14,15,16,17,18,19,20] K.jH
def dM:Fn:= { bo:=3,vars:=[0,1,2,3,4,5,6,7,8,9,10,11,13,14,15,16,28,29,30,39,40],body:=(q [w 3 (.bx v0 2),w 4 (.bx v1 4),w 5 (.bx v2 1),w 6 (.mv (.c (.nil)))] [] (q [u (.mf N.aM [.v 5,.v 3,.v 4]),x 7 l0] [] (q [u (.bs [.i 1152921504606846976] 1),f 0 v3,g l0,u (.ln l0),u (.ca N.aN 1 [] [.l 3,.l 0]),x 8 l0] [] (q [m v8,g v5,a 1 l1 l0,u (.st l0 (.i 0) 1 [])] [] (.seq (q [x 9 (.b true)] [] (.blk 0 K.oE)) (q [m v8,x 6 l0] [] .ret)))))),res:=[(6,none)]}
def bB:Fn:= { bo:=4,vars:=[0,1,2,3,5],body:=(q [x 4 (.b false)] [] (q [g v1,m v0,a 1 l1 l0,g l0,h 2 v2,m v0,u (.ca N.jh 0 [] [.l 1,.l 0]),u (.bin .add l3 l0),f 3 v3,g l0,u (.bin .gtr l2 l0),x 4 l0] [(0,7),(2,7),(3,7),(9,0)] .ret)),res:=[(4,none)]}
def fj:C:= (.seq (.ite [m v8,m v0,m v7,a 1 l1 l0,g l0,u (.ln l0),u (.bin .lss l5 l0)] [] 0 .skip (.exit 4)) (.seq (.blk 5 (q [m v0,m v7,a 1 l1 l0,g l0,m v8,a 1 l1 l0,g l0,x 9 l0] [] (.ite [m v9,u (.bin .geq l0 (.i 0)),m l0,e 0 true v9,e 1 true v1,y 2 true (.ln l0),y 3 true (.bin .lss l2 l0),u (.pk l4 l0 (.b false)),m l0,e 0 true v6,e 1 true v9,y 2 true (.ca N.cH 0 [] [.l 1,.l 0]),y 3 true (.un .not l0),u (.pk l4 l0 (.b false))] [] 0 (.reg [m v6,m v9,u (.bs [.l 0] 1),u (.app l2 l0 true 1),m v5,m v1,m v9,a 1 l1 l0,g l0,u (.mn [.l 0,.i 12]),u (.mx [.i 0,.l 0]),u (.bin .add l6 l0),x 6 l8,x 5 l1] [(7,0),(7,3),(8,0),(8,3)]) .skip))) (.reg [m v8,u (.bin .add l0 (.i 1)),x 8 l0] [])))
def lq:C:= .loop true [2,9] K.fj
def iT:C:= (.seq (.ite [m v7,m v0,u (.ln l0),u (.bin .lss l2 l0)] [] 0 .skip (.exit 2)) (.seq (.blk 3 (.seq (.ite [m v3,m v7,u (.cv .u64 l0),u (.bin .shr l2 l0),u (.bin .and l0 (.i 1)),u (.bin .eql l0 (.i 0))] [] 0 (.exit 3) .skip) (q [m v4,u (.bin .add l0 (.i 1)),x 4 l0] [] (q [x 8 (.i 0)] [] (.blk 4 K.lq))))) (.reg [m v7,u (.bin .add l0 (.i 1)),x 7 l0] [])))
def p5:C:= .loop true [2,8,9] K.iT
def iU:C:= (.seq (.ite [m v3,m v0,u (.ln l0),u (.cv .u64 l0),u (.bin .shl (.i 1) l0),u (.bin .lss l4 l0)] [] 0 .skip (.exit 0)) (.seq (.blk 1 (q [x 4 (.i 0),x 5 (.i 0)] [] (q [w 6 (.nw 1)] [] (.seq (q [x 7 (.i 0)] [] (.blk 2 K.p5)) (.ite [m v5,m v4,u (.bin .lss l1 l0)] [] 0 (q [x 2 (.b false)] [] .ret) .skip))))) (.reg [m v3,u (.bin .add l0 (.i 1)),x 3 l0] [])))
def p6:C:= .loop true [2,4,5,6,7,8,9] K.iU
def cO:Fn:= { bo:=2,vars:=[0,1,4,5,6,7,8,9,10,11],body:=(q [x 2 (.b false)] [] (.seq (q [x 3 (.i 1)] [] (.blk 0 K.p6)) (q [x 2 (.b true)] [] .ret))),res:=[(2,none)]}
end Go.Ev.K
namespace Go.Ev
class dR [Lib]:Prop where
 rP:Lib.fs N.eQ=some K.eQ
 mQ:Lib.fs N.eR=some K.eR
 lr:Lib.fs N.dL=some K.dL
 km:Lib.fs N.cq=some K.cq
 mR:Lib.fs N.bR=some K.bR
 ly:Lib.fs N.cU=some K.cU
 fS:Lib.fs N.bW=some K.bW
 lA:Lib.fs N.du=some K.du
 oF:Lib.fs N.fQ=some K.fQ
 mS:Lib.fs N.dY=some K.dY
 eU:Lib.fs N.az=some K.az
 jY:Lib.fs N.b6=some K.b6
 lB:Lib.fs N.cC=some K.cC
 jI:Lib.fs N.bP=some K.bP
 lC:Lib.fs N.dM=some K.dM
 iV:Lib.fs N.bB=some K.bB
 mT:Lib.fs N.cO=some K.cO
namespace K
variable [Lib] [dR]
theorem rP:Lib.fs N.eQ=some K.eQ:=dR.rP
theorem mQ:Lib.fs N.eR=some K.eR:=dR.mQ
theorem lr:Lib.fs N.dL=some K.dL:=dR.lr
theorem km:Lib.fs N.cq=some K.cq:=dR.km
theorem mR:Lib.fs N.bR=some K.bR:=dR.mR
theorem ly:Lib.fs N.cU=some K.cU:=dR.ly
theorem fS:Lib.fs N.bW=some K.bW:=dR.fS
theorem lA:Lib.fs N.du=some K.du:=dR.lA
theorem oF:Lib.fs N.fQ=some K.fQ:=dR.oF
theorem mS:Lib.fs N.dY=some K.dY:=dR.mS
theorem eU:Lib.fs N.az=some K.az:=dR.eU
theorem jY:Lib.fs N.b6=some K.b6:=dR.jY
theorem lB:Lib.fs N.cC=some K.cC:=dR.lB
theorem jI:Lib.fs N.bP=some K.bP:=dR.jI
theorem lC:Lib.fs N.dM=some K.dM:=dR.lC
theorem iV:Lib.fs N.bB=some K.bB:=dR.iV
theorem mT:Lib.fs N.cO=some K.cO:=dR.mT
end K
end Go.Ev
namespace Go.Ev
open Go
variable [Lib] [aZ] [bc] [cG] [cJ]
theorem Jv{α β γ:Type}{f:β→Option γ}{g:α→β}{h:α→γ}:∀ {l:List α},(∀x∈l,f (g x)=some (h x))→aW f (l.map g)=some (l.map h)
 | [],_=>rfl
 | a::l,hh=>by
   have ih:=Jv (f:=f) (g:=g) (h:=h) (l:=l) fun x hx=>hh x (List.mem_cons_of_mem _ hx)
   simp only[List.map_cons,aW,hh a List.mem_cons_self,aLq,ih,aLw]
theorem yV{H:ae}:∀ {a b:List Nat} {x y:ae},pick H a=some x→pick H b=some y→pick H (a++b)=some (x++y)
 | [],b,x,y,hx,hy=>by cases hx;exact hy
 | i::a,b,x,y,hx,hy=>by
   simp only[pick]at hx
   cases ho:H[i]? with
   | none=>rw[ho]at hx;simp at hx
   | some o=>
     rw[ho,aLq]at hx
     cases hp:pick H a with
     | none=>rw[hp]at hx;simp at hx
     | some z=>
       rw[hp]at hx
       simp only[aLw,Option.some.injEq]at hx
       subst hx
       simp only[List.cons_append,pick,ho,aLq,yV hp hy,aLw]
end Go.Ev
namespace Go.Ev
open Go
variable [Lib] [aZ] [bc] [cG] [cJ] [eC] [cL] [cM] [dG] [dE] [bI] [bM] [cA] [cB] [gY] [dR]
abbrev bls(l:List Bool):List D:=(l.map Ev.T.bool).map .t
abbrev arA(l:List Int):Obj:= .arr 1 false 0 (ints l)
def rk(G:List (List Int)):Nat→Nat
 | 0=>0
 | n+1=>rk G n+if nth G n=[]then 0 else 1
def idT(G:List (List Int))(f:Nat→Nat):Nat→List Nat
 | 0=>[]
 | m+1=>idT G f m++if nth G m=[]then []else [f m]
def esT(G:List (List Int))(f:Nat→Nat):Nat→List D
 | 0=>[]
 | m+1=>esT G f m++[if nth G m=[]then .nil else .ref (f m) 0 (nth G m).length]
def aT(G G2:List (List Int)):Nat→ae
 | 0=>[]
 | m+1=>aT G G2 m++if nth G m=[]then []else [arA (nth G2 m)]
theorem tj(G:List (List Int))(f:Nat→Nat):∀m,(idT G f m).length=rk G m
 | 0=>rfl
 | m+1=>by
   have ih:=tj G f m
   rw[idT,rk,aLv,ih]
   split<;>rfl
theorem kn(G G2:List (List Int)):∀m,(aT G G2 m).length=rk G m
 | 0=>rfl
 | m+1=>by
   have ih:=kn G G2 m
   rw[aT,rk,aLv,ih]
   split<;>rfl
theorem lD(G:List (List Int))(f:Nat→Nat):∀m,(esT G f m).length=m
 | 0=>rfl
 | m+1=>by rw[esT,aLv,lD G f m];rfl
theorem TD(G:List (List Int)){n m:Nat}(h:n≤m):rk G n≤rk G m:=by
 induction m with
 | zero=>rw[show n=0 by omega];exact aLs _
 | succ m ih=>
   by_cases e:n=m+1
   · rw[e];exact aLs _
   · have:=ih (by omega)
     rw[rk];omega
theorem wB(G:List (List Int)){n m:Nat}(h:n<m)(hn:nth G n≠[]):rk G n<rk G m:=by
 have:=TD G (n:=n+1) (m:=m) (by omega)
 rw[rk,if_neg hn]at this
 omega
theorem yW(G:List (List Int))(f:Nat→Nat){n:Nat}(hn:nth G n≠[]):∀m,n<m→(idT G f m)[rk G n]?=some (f n)
 | 0,h=>by omega
 | m+1,h=>by
   rw[idT]
   by_cases e:n=m
   · subst e
     rw[if_neg hn,aLh (by rw[tj];exact aLs _),tj,Nat.sub_self];rfl
   · have ih:=yW G f hn m (by omega)
     rw[aLg (by rw[tj];exact wB G (by omega) hn)]
     exact ih
theorem EC(G G2:List (List Int)){n:Nat}(hn:nth G n≠[]):∀m,n<m→(aT G G2 m)[rk G n]?=some (arA (nth G2 n))
 | 0,h=>by omega
 | m+1,h=>by
   rw[aT]
   by_cases e:n=m
   · subst e
     rw[if_neg hn,aLh (by rw[kn];exact aLs _),kn,Nat.sub_self];rfl
   · have ih:=EC G G2 hn m (by omega)
     rw[aLg (by rw[kn];exact wB G (by omega) hn)]
     exact ih
theorem yX(G:List (List Int))(f:Nat→Nat){n:Nat}:∀m,n<m→(esT G f m)[n]?=some (if nth G n=[]then .nil else .ref (f n) 0 (nth G n).length)
 | 0,h=>by omega
 | m+1,h=>by
   rw[esT]
   by_cases e:n=m
   · subst e
     rw[aLh (by rw[lD];exact aLs _),lD,Nat.sub_self];rfl
   · rw[aLg (by rw[lD];omega)]
     exact yX G f m (by omega)
theorem yY(G:List (List Int))(f:Nat→Nat):∀m,(esT G f m).flatMap (ids depth)=idT G f m
 | 0=>rfl
 | m+1=>by
   rw[esT,idT,List.flatMap_append,yY G f m]
   congr 1
   split<;>rfl
theorem rQ:∀ {l sel:List Nat},(sel++l).Nodup→b7 sel l=sel++l
 | [],sel,_=>by simp[b7]
 | i::r,sel,h=>by
   have hi:sel.contains i=false:=by
    rw[Bool.eq_false_iff]
    intro hc
    have hc:=List.contains_iff_mem.1 hc
    exact(List.nodup_append.1 h).2.2 i hc i List.mem_cons_self rfl
   rw[b7,hi]
   simp only[aLt,if_false]
   rw[rQ (by simpa using h)]
   simp
theorem tq:∀ {l sel:List Nat},(∀x∈l,x∈sel)→b7 sel l=sel
 | [],sel,_=>rfl
 | i::r,sel,h=>by
   have hi:sel.contains i=true:=List.contains_iff_mem.2 (h i List.mem_cons_self)
   rw[b7,hi]
   simp only[if_true]
   exact tq fun x hx=>h x (List.mem_cons_of_mem _ hx)
structure BL(K:ae)(b q g:Nat)(f:Nat→Nat)(W:List (List Int))(S:List Int)(T:List Bool)(G:List (List Int)):Prop where
 hb:K[b]?=some (.box [.t (.sl (W.map tL)),.t (tL S),.ref g 0 G.length])
 hq:K[q]?=some (.arr 1 false 0 (bls T))
 hg:K[g]?=some (.arr 1 false 0 (esT G f G.length))
 hf:∀n,n<G.length→nth G n≠[]→K[f n]?=some (arA (nth G n))
 nd:([b,q,g]++idT G f G.length).Nodup
abbrev jv(W:List (List Int))(S:List Int)(T:List Bool)(G2:List (List Int))(f:Nat→Nat)(A:ae):ae:= .box [.t (.sl (W.map tL)),.t (tL S),.ref 2 0 G2.length]:: .arr 1 false 0 (bls T):: .arr 1 false 0 (esT G2 f G2.length)::A
abbrev fT(W:List (List Int))(S:List Int)(T:List Bool)(G:List (List Int)):ae:=jv W S T G (fun n=>3+rk G n) (aT G G G.length)
theorem CL(T:List Bool):(bls T).flatMap (ids depth)=[]:=xR 8 _
theorem CM(l:List Int):(arA l).ds.flatMap (ids depth)=[]:=xR 8 _
theorem BL.rch{K:ae}{b q g:Nat}{f:Nat→Nat}{W:List (List Int)}{S:List Int}{T:List Bool}{G:List (List Int)}(h:BL K b q g f W S T G)(i:Int)(n:Nat):
 reach K 3 (b7 [] (uD 8 [.bp b 0,I i,.ref q 0 n]))=[b,q,g]++idT G f G.length:=by
 have nd:=h.nd
 have n3:([b,q,g]:List Nat).Nodup:=(List.nodup_append.1 nd).1
 have n2:([b,q]:List Nat).Nodup:=by
  have:List.Sublist [b,q] [b,q,g]:=by simp
  exact n3.sublist this
 have s0:b7 [] (uD 8 [.bp b 0,I i,.ref q 0 n])=[b,q]:=rQ (l:=[b,q]) (sel:=[]) n2
 have i2:iD K [b,q]=[g]:=by
  simp only[iD,List.flatMap_cons,List.flatMap_nil,h.hb,h.hq,Obj.ds,CL]
  rfl
 have s1:b7 [b,q] [g]=[b,q,g]:=rQ (l:=[g]) (sel:=[b,q]) n3
 have i3:iD K [b,q,g]=g::idT G f G.length:=by
  simp only[iD,List.flatMap_cons,List.flatMap_nil,h.hb,h.hq,h.hg,Obj.ds,CL,yY]
  simp[ids,depth]
 have s2:b7 [b,q,g] (g::idT G f G.length)=[b,q,g]++idT G f G.length:=by
  have:([b,q,g]:List Nat).contains g=true:=List.contains_iff_mem.2 (by simp)
  rw[b7,this]
  simp only[if_true]
  exact rQ nd
 have i4:∀x∈iD K ([b,q,g]++idT G f G.length),x∈[b,q,g]++idT G f G.length:=by
  intro x hx
  unfold iD at hx
  rw[List.flatMap_append,List.mem_append]at hx
  rcases hx with hx | hx
  · have hx:x∈iD K [b,q,g]:=hx
    rw[i3]at hx
    rcases List.mem_cons.1 hx with e | e
    · subst e;simp
    · exact List.mem_append_right _ e
  · obtain⟨j,hj,hx⟩:=List.mem_flatMap.1 hx
    have:∃n,n<G.length∧nth G n≠[]∧j=f n:=by
     have key:∀m,j∈idT G f m→∃n,n<m∧nth G n≠[]∧j=f n:=by
      intro m
      induction m with
      | zero=>intro h;simp[idT]at h
      | succ m ih=>
        intro h
        rw[idT,List.mem_append]at h
        rcases h with h | h
        · obtain⟨n,a,b,c⟩:=ih h;exact⟨n,by omega,b,c⟩
        · split at h
          · simp at h
          · rename_i hm;exact⟨m,by omega,hm,by simpa using h⟩
     exact key _ hj
    obtain⟨n,hn,hne,rfl⟩:=this
    rw[h.hf n hn hne]at hx
    simp only[CM]at hx
    simp at hx
 simp only[reach,s0,i2,s1,i3,s2,tq i4]
theorem BL.CN{K:ae}{b q g:Nat}{f:Nat→Nat}{W:List (List Int)}{S:List Int}{T:List Bool}{G:List (List Int)}(h:BL K b q g f W S T G){n:Nat}(hn:n<G.length)(hne:nth G n≠[]):
 ([b,q,g]++idT G f G.length)[3+rk G n]?=some (f n):=by
 rw[aLh (by simp),show 3+rk G n-[b,q,g].length=rk G n by simp]
 exact yW G f hne _ hn
theorem BL.ix{K:ae}{b q g:Nat}{f:Nat→Nat}{W:List (List Int)}{S:List Int}{T:List Bool}{G:List (List Int)}(h:BL K b q g f W S T G){n:Nat}(hn:n<G.length)(hne:nth G n≠[]):
 idxOf ([b,q,g]++idT G f G.length) (f n)=some (3+rk G n):=gF _ _ _ h.nd (h.CN hn hne)
theorem BL.ix3{K:ae}{b q g:Nat}{f:Nat→Nat}{W:List (List Int)}{S:List Int}{T:List Bool}{G:List (List Int)}(h:BL K b q g f W S T G):
 idxOf ([b,q,g]++idT G f G.length) b=some 0∧idxOf ([b,q,g]++idT G f G.length) q=some 1∧idxOf ([b,q,g]++idT G f G.length) g=some 2:=
 ⟨gF _ _ _ h.nd rfl,gF _ _ _ h.nd rfl,gF _ _ _ h.nd rfl⟩
theorem wC{u:Nat→Option Nat}{G:List (List Int)}{f f2:Nat→Nat}:∀m,(∀n,n<m→nth G n≠[]→u (f n)=some (f2 n))→aW (ren u depth) (esT G f m)=some (esT G f2 m)
 | 0,_=>rfl
 | m+1,h=>by
   have ih:=wC m fun n hn=>h n (by omega)
   rw[esT,esT]
   refine o8 ih ?_
   by_cases e:nth G m=[]
   · rw[if_pos e,if_pos e];rfl
   · rw[if_neg e,if_neg e]
     have:=h m (by omega) e
     simp only[aW,ren,depth,this,aLw,aLq]
theorem Ph{u:Nat→Option Nat}{G G2:List (List Int)}:∀m,aW (b5 u) (aT G G2 m)=some (aT G G2 m)
 | 0=>rfl
 | m+1=>by
   rw[aT]
   refine o8 (Ph m) ?_
   split
   · rfl
   · simp only[aW,b5,ints,mG,aLw,aLq]
theorem BL.pk{K:ae}{b q g:Nat}{f:Nat→Nat}{W:List (List Int)}{S:List Int}{T:List Bool}{G:List (List Int)}(h:BL K b q g f W S T G):
 pick K ([b,q,g]++idT G f G.length)=some ([.box [.t (.sl (W.map tL)),.t (tL S),.ref g 0 G.length],.arr 1 false 0 (bls T),.arr 1 false 0 (esT G f G.length)]++aT G G G.length):=by
 have p3:pick K [b,q,g]=some [.box [.t (.sl (W.map tL)),.t (tL S),.ref g 0 G.length],.arr 1 false 0 (bls T),.arr 1 false 0 (esT G f G.length)]:=by
  simp only[pick,h.hb,h.hq,h.hg,aLq,aLw]
 have key:∀m,m≤G.length→pick K (idT G f m)=some (aT G G m):=by
  intro m
  induction m with
  | zero=>intro _;rfl
  | succ m ih=>
    intro hm
    rw[idT,aT]
    refine yV (ih (by omega)) ?_
    by_cases e:nth G m=[]
    · rw[if_pos e,if_pos e];rfl
    · rw[if_neg e,if_neg e]
      simp only[pick,h.hf m (by omega) e,aLq,aLw]
 exact yV p3 (key _ (aLs _))
theorem BL.call{K:ae}{b q g:Nat}{f:Nat→Nat}{W:List (List Int)}{S:List Int}{T:List Bool}{G:List (List Int)}(h:BL K b q g f W S T G)(i:Int)(n:Nat):
 Ax K aG N.az 0 [2] [.bp b 0,I i,.ref q 0 n]=(aG 0 N.az [.bp 0 0,I i,.ref 1 0 n] (fT W S T G)).bind (jV K K ([b,q,g]++idT G f G.length)):=by
 obtain⟨x0,x1,x2⟩:=h.ix3
 have ar:lO K [2] 0 [.bp b 0,I i,.ref q 0 n]=some [.bp b 0,I i,.ref q 0 n]:=by simp only[go_sem]
 have fz:bT K [2] 0 [.bp b 0,I i,.ref q 0 n]=[]:=by simp only[go_sem]
 have rn:aW (ren (idxOf ([b,q,g]++idT G f G.length)) 8) [.bp b 0,I i,.ref q 0 n]=some [.bp 0 0,I i,.ref 1 0 n]:=by
  simp only[aW,ren,x0,x1,aLw,aLq]
 have ro:aW (b5 (idxOf ([b,q,g]++idT G f G.length))) ([.box [.t (.sl (W.map tL)),.t (tL S),.ref g 0 G.length],.arr 1 false 0 (bls T),.arr 1 false 0 (esT G f G.length)]++aT G G G.length)=some (fT W S T G):=by
  refine o8 (x:=[.box [.t (.sl (W.map tL)),.t (tL S),.ref 2 0 G.length],.arr 1 false 0 (bls T),.arr 1 false 0 (esT G (fun n=>3+rk G n) G.length)]) ?_ (Ph _)
  have e1:aW (ren (idxOf ([b,q,g]++idT G f G.length)) 8) (esT G f G.length)=some (esT G (fun n=>3+rk G n) G.length):=wC (u:=idxOf ([b,q,g]++idT G f G.length)) (f2:=fun n=>3+rk G n) G.length (fun n hn hne=>h.ix hn hne)
  have e2:aW (ren (idxOf ([b,q,g]++idT G f G.length)) 8) (bls T)=some (bls T):=mG _ _
  simp only[aW,b5,ren,depth,x2,aLw,aLq]
  rw[e1,e2]
  rfl
 rw[DV,DW,ar,aLq,DX,h.rch,DY,rn,aLq,fz,DZ]
 simp only[pins]
 rw[h.pk,aLq,D0,ro,aLq,D1]
theorem Jw(G:List (List Int)):∀m,idT G (fun n=>3+rk G n) m=List.range' 3 (rk G m)
 | 0=>rfl
 | m+1=>by
   rw[idT,Jw G m,rk]
   split
   · simp
   · rw[List.range'_concat];simp
theorem lE(W:List (List Int))(S:List Int)(T:List Bool)(G:List (List Int)):(fT W S T G).length=3+rk G G.length:=by
 simp only[fT,jv,List.length_cons,kn];omega
theorem Jx(W:List (List Int))(S:List Int)(T:List Bool)(G:List (List Int)):[0,1,2]++idT G (fun n=>3+rk G n) G.length=List.range (fT W S T G).length:=by
 rw[Jw,lE,List.range_eq_range',show [0,1,2]=List.range' 0 3 from rfl]
 have:=List.range'_append (s:=0) (m:=3) (n:=rk G G.length) (step:=1)
 simpa using this
theorem CO(W:List (List Int))(S:List Int)(T:List Bool)(G:List (List Int)):BL (fT W S T G) 0 1 2 (fun n=>3+rk G n) W S T G where
 hb:=rfl
 hq:=rfl
 hg:=rfl
 hf n hn hne:=by
  have:=EC G G hne G.length hn
  show(fT W S T G)[3+rk G n]?=_
  rw[show 3+rk G n=rk G n+1+1+1 by omega]
  simp only[fT,jv,List.getElem?_cons_succ]
  exact this
 nd:=by rw[Jx W S T G];exact List.nodup_range
theorem Gn(n:Nat):bN (List.range n) n=some:=by
 funext i
 unfold bN
 rw[List.length_range]
 split
 · rename_i h;rw[aLp h]
 · congr 1;omega
theorem yZ{α:Type}:∀(a b:List α),a.length=b.length→aO a (List.range a.length) b=b:=by
 have key:∀(b a pre:List α),a.length=b.length→aO (pre++a) (List.range' pre.length a.length) b=pre++b:=by
  intro b
  induction b with
  | nil=>
    intro a pre h
    have:a=[]:=List.length_eq_zero_iff.1 h
    subst this;rfl
  | cons x b ih=>
    intro a pre h
    cases a with
    | nil=>simp at h
    | cons y a=>
      simp only[List.length_cons,List.range'_succ,aO]
      rw[List.set_append_right _ _ (aLs _),Nat.sub_self,List.set_cons_zero]
      have:=ih a (pre++[x]) (by simpa using h)
      simp only[aLv,List.length_cons,List.length_nil,Nat.zero_add,List.append_assoc,List.singleton_append]at this
      exact this
 intro a b h
 have:=key b a [] h
 rw[List.range_eq_range']
 simpa using this
theorem MX{K os:ae}(hk:0<K.length)(hl:K.length≤os.length)(ho:aW (b5 some) os=some os)(x:Bool):jV K K (List.range K.length) (B x,os)=some (B x,os):=by
 have e:jV K K (List.range K.length) (B x,os)=(ren (bN (List.range K.length) K.length) depth (B x)).bind fun r'=>(aW (b5 (bN (List.range K.length) K.length)) os).map fun os=>(r',aO K (List.range K.length) (os.take (List.range K.length).length)++os.drop (List.range K.length).length):=by
  unfold jV
  have:(List.range K.length).isEmpty=false:=by
   cases K with
   | nil=>simp at hk
   | cons a r=>simp[List.range_succ]
  simp only[this,Bool.false_and,aLt,if_false]
  rfl
 rw[e,Gn,ho]
 simp only[ren,depth,aLq,aLw,List.length_range]
 rw[yZ _ _ (by rw[List.length_take];omega),List.take_append_drop]
theorem ED{W:List (List Int)}{S:List Int}{T:List Bool}{G:List (List Int)}{f:Nat→Nat}{A:ae}(hA:∀o∈A,∃l,o=arA l):aW (b5 some) (jv W S T G f A)=some (jv W S T G f A):=by
 have e1:aW (ren some 8) (esT G f G.length)=some (esT G f G.length):=wC (u:=some) (f2:=f) G.length (fun n _ _=>rfl)
 have e2:aW (ren some 8) (bls T)=some (bls T):=mG _ _
 have e3:aW (b5 some) A=some A:=by
  refine s8 fun o ho=>?_
  obtain⟨l,rfl⟩:=hA o ho
  simp only[b5,ints,mG,aLw]
 simp only[jv,aW,b5,ren,depth,aLw,aLq]
 rw[e1,e2,e3];rfl
theorem uj(G G2:List (List Int)):∀m,∀o∈aT G G2 m,∃l,o=arA l
 | 0,o,h=>by simp[aT]at h
 | m+1,o,h=>by
   rw[aT,List.mem_append]at h
   rcases h with h | h
   · exact uj G G2 m o h
   · split at h
     · simp at h
     · exact⟨_,List.mem_singleton.1 h⟩
theorem MY(W:List (List Int))(S:List Int)(T:List Bool)(G:List (List Int))(i:Int)(n:Nat){x:Bool}{os:ae}(h:aG 0 N.az [.bp 0 0,I i,.ref 1 0 n] (fT W S T G)=some (B x,os))(hl:3+rk G G.length≤os.length)(ho:aW (b5 some) os=some os):
 Ax (fT W S T G) aG N.az 0 [2] [.bp 0 0,I i,.ref 1 0 n]=some (B x,os):=by
 rw[(CO W S T G).call i n,h,aLq,Jx W S T G]
 exact MX (by rw[lE];omega) (by rw[lE];exact hl) ho x
abbrev Tb(T:List Bool):Nat→Bool:=fun n=>nth T n
def left(T:List Bool):Nat:=(T.filter fun x=> !x).length
theorem EE:∀ {T:List Bool} {n:Nat},n<T.length→nth T n=false→left (T.set n true)<left T
 | [],n,h,_=>by simp at h
 | a::r,0,h,e=>by
   have:a=false:=e
   subst this
   simp[left]
 | a::r,n+1,h,e=>by
   have ih:=EE (T:=r) (n:=n) (by simpa using h) e
   unfold left at ih ⊢
   simp only[List.set_cons_succ,List.filter_cons]
   split
   · simp only[List.length_cons];omega
   · exact ih
def fK(G:List (List Int))(n:Nat):Nat:=if nth G n=[]then 3+rk G G.length else 3+rk G n
structure EF(G G2:List (List Int))(x:ae):Prop where
 keep:∀n,nth G n≠[]→nth G2 n≠[]
 new:(x=[]∧∀n,nth G n=[]→nth G2 n=[])∨∃n0,n0<G.length∧nth G n0=[]∧nth G2 n0≠[]∧x=[arA (nth G2 n0)]∧∀n,n≠n0→nth G n=[]→nth G2 n=[]
def MZ(W:List (List Int))(S:List Int)(G:List (List Int))(i:Int)(T:List Bool)(r:Bool×ae):Prop:=
 (∃G2 T2 x,r=(true,jv W S T2 G2 (fK G) (aT G G2 G.length++x))∧kT W S G i (Tb T) G2∧EF G G2 x∧T2.length=T.length)∨
 ∃T2,r=(false,fT W S T2 G)∧vZ W S G i (Tb T) (Tb T2)∧T2.length=T.length∧left T2≤left T
theorem EG{G G2:List (List Int)}{x:ae}(h:EF G G2 x):∀o∈aT G G2 G.length++x,∃l,o=arA l:=by
 intro o ho
 rcases List.mem_append.1 ho with a | a
 · exact uj _ _ _ o a
 · rcases h.new with⟨e,_⟩ | ⟨n0,_,_,_,e,_⟩
   · rw[e]at a;simp at a
   · rw[e]at a;exact⟨_,List.mem_singleton.1 a⟩
theorem Gp{W:List (List Int)}{S:List Int}{T:List Bool}{G:List (List Int)}{i:Int}{n:Nat}{r:Bool×ae}(h:aG 0 N.az [.bp 0 0,I i,.ref 1 0 n] (fT W S T G)=some (B r.1,r.2))(d:MZ W S G i T r):
 Ax (fT W S T G) aG N.az 0 [2] [.bp 0 0,I i,.ref 1 0 n]=some (B r.1,r.2):=by
 refine MY W S T G i n h ?_ ?_
 · rcases d with⟨G2,T2,x,rfl, -,nx, -⟩ | ⟨T2,rfl, -⟩
   · simp only[jv,List.length_cons,aLv,kn];omega
   · rw[lE];exact aLs _
 · rcases d with⟨G2,T2,x,rfl, -,nx, -⟩ | ⟨T2,rfl, -⟩
   · exact ED (EG nx)
   · exact ED (uj _ _ _)
theorem y4{G:List (List Int)}{n:Nat}(hn:n<G.length)(l:List Int){a:Int}(h:l.Perm (a::nth G n)):(rH (G.set n l)).Perm (a::rH G):=by
 have e:G=G.take n++nth G n::G.drop (n+1):=by
  have:nth G n=G[n]:=by unfold nth;rw[aLl,aLc hn];rfl
  rw[this,←List.drop_eq_getElem_cons hn,List.take_append_drop]
 rw[n9,n9,List.set_eq_take_append_cons_drop,if_pos hn]
 conv=>rhs;rw[e]
 simp only[List.flatten_append,List.flatten_cons]
 refine(List.Perm.append_left _ (List.Perm.append_right _ h)).trans ?_
 simp only[List.cons_append]
 exact List.perm_middle
theorem fD{l:List (List Int)}{i:Nat}{a:List Int}(h:i<l.length):nth (l.set i a) i=a:=by
 unfold nth
 rw[aLl,aLj h];rfl
theorem cP{l:List (List Int)}{i j:Nat}{a:List Int}(h:j≠i):nth (l.set j a) i=nth l i:=by
 unfold nth
 rw[aLl,aLl,aLi h]
theorem mb{l:List Int}{k:Nat}(h:k<l.length):l[k]?=some (nth l k):=by
 unfold nth
 rw[aLc h,aLl,aLc h];rfl
theorem Gq{W:List (List Int)}{S:List Int}{G:List (List Int)}(h:GI W S G){i n:Nat}(hi:i<W.length)(hn:n<S.length)(hw:(n:Int)∈nth W i)(hc:((nth G n).length:Int)<nth S n){T:List Bool}(ht:nth T n=false):
 kT W S G i (Tb T) (G.set n (nth G n++[(i:Int)])):=by
 have gl:=h.len
 refine⟨⟨by simpa using gl,fun m hm hne=>?_,fun m hm j hj=>?_⟩,y4 (by omega) _ ?_,fun m hm=>?_,fun U hU=>⟨fun m hm hu=>?_,fun hs=>?_⟩⟩
 · by_cases e:m=n
   · subst e;rw[fD (by omega)];simp only[aLv,List.length_singleton];omega
   · rw[cP (fun k=>e k.symm)]at hne ⊢;exact h.cap m hm hne
 · by_cases e:m=n
   · subst e
     rw[fD (by omega)]at hj
     rcases List.mem_append.1 hj with a | a
     · exact h.wnt m hm j a
     · rw[List.mem_singleton.1 a];exact⟨by omega,by omega,by simpa using hw⟩
   · rw[cP (fun k=>e k.symm)]at hj;exact h.wnt m hm j hj
 · exact List.perm_append_singleton _ _
 · have e:n≠m:=fun k=>by subst k;simp only[Tb]at hm;rw[ht]at hm;simp at hm
   rw[cP e]
 · have e:n≠m:=fun k=>by subst k;have:=(hU n hn hu).1;omega
   rw[cP e]
 · have:=(hU n hn (hs n hn (by simpa using hw))).1;omega
theorem Gr{W:List (List Int)}{S:List Int}{G G1:List (List Int)}(h:GI W S G){i n k:Nat}(hi:i<W.length)(hn:n<S.length)(hw:(n:Int)∈nth W i)(hk:k<(nth G n).length){T T1:List Bool}(ht:nth T n=false)
 (hT:∀m,nth T m=true→nth T1 m=true) (h1:nth T1 n=true) (p:kT W S G (nth (nth G n) k) (Tb T1) G1):kT W S G i (Tb T) (G1.set n ((nth G n).set k i)):=by
 have gl:=p.gi.len
 have e1:nth G1 n=nth G n:=p.old n h1
 have hp:((nth G n).set k (i:Int)).length=(nth G1 n).length:=by rw[List.length_set,e1]
 refine⟨⟨by simpa using gl,fun m hm hne=>?_,fun m hm j hj=>?_⟩,?_,fun m hm=>?_,fun U hU=>?_⟩
 · by_cases e:m=n
   · subst e;rw[fD (by omega),hp];exact p.gi.cap m hm (fun k=>by rw[e1]at k;rw[k]at hk;simp at hk)
   · rw[cP (fun k=>e k.symm)]at hne ⊢;exact p.gi.cap m hm hne
 · by_cases e:m=n
   · subst e
     rw[fD (by omega)]at hj
     rcases aLk hj with a | a
     · exact h.wnt m hm j a
     · rw[a];exact⟨by omega,by omega,by simpa using hw⟩
   · rw[cP (fun k=>e k.symm)]at hj;exact p.gi.wnt m hm j hj
 · -- the other list is placed elsewhere,this one has its seat
   have ek:(nth G n)[k]?=some (nth (nth G n) k):=mb hk
   have c1:((nth G n).set k (i:Int)).Perm (i::(nth G n).eraseIdx k):=by
    rw[List.set_eq_take_append_cons_drop,if_pos hk,List.eraseIdx_eq_take_drop_succ]
    exact List.perm_middle
   have c2:(nth G n).Perm (nth (nth G n) k::(nth G n).eraseIdx k):=by
    have:nth G n=(nth G n).take k++nth (nth G n) k::(nth G n).drop (k+1):=by
     have q:nth (nth G n) k=(nth G n)[k]:=by have:=ek;rw[aLc hk]at this;exact(Option.some.inj this).symm
     rw[q,←List.drop_eq_getElem_cons hk,List.take_append_drop]
    rw[List.eraseIdx_eq_take_drop_succ]
    exact(List.Perm.of_eq this).trans List.perm_middle
   have q1:(rH (G1.set n ((nth G n).set k (i:Int)))).Perm (i::rH (G1.set n ((nth G n).eraseIdx k))):=by
    have:=y4 (G:=G1.set n ((nth G n).eraseIdx k)) (n:=n) (by simpa using by omega) ((nth G n).set k (i:Int)) (a:=i) (by rw[fD (by omega)];exact c1)
    rw[List.set_set]at this
    exact this
   have q2:(rH G1).Perm (nth (nth G n) k::rH (G1.set n ((nth G n).eraseIdx k))):=by
    have:=y4 (G:=G1.set n ((nth G n).eraseIdx k)) (n:=n) (by simpa using by omega) (nth G n) (a:=nth (nth G n) k) (by rw[fD (by omega)];exact c2)
    rw[List.set_set]at this
    have eG:G1.set n (nth G n)=G1:=by
     apply List.ext_getElem?
     intro m
     by_cases e:n=m
     · subst e
       rw[aLj (by omega),←e1]
       unfold nth
       rw[aLl,aLc (by omega)];rfl
     · rw[aLi e]
    rwa [eG]at this
   have q3:(rH (G1.set n ((nth G n).eraseIdx k))).Perm (rH G):=List.Perm.cons_inv (q2.symm.trans p.pm)
   exact q1.trans (q3.cons _)
 · have e:n≠m:=fun k=>by subst k;simp only[Tb]at hm;rw[ht]at hm;simp at hm
   rw[cP e]
   exact p.old m (hT m hm)
 · obtain⟨u1,u2⟩:=p.clo U hU
   have nu:¬U n:=fun hu=>u2 fun x hx hx2=>(hU n hn hu).2 _ (aLd (mb hk)) x hx hx2
   refine⟨fun m hm hu=>?_,fun hs=>nu (hs n hn (by simpa using hw))⟩
   have e:n≠m:=fun k=>by subst k;exact nu hu
   rw[cP e]
   exact u1 m hm hu
theorem rS{G G2:List (List Int)}{f f2:Nat→Nat}:∀m,(∀n,n<m→(nth G n=[]↔nth G2 n=[])∧(nth G n≠[]→f n=f2 n∧(nth G n).length=(nth G2 n).length))→esT G f m=esT G2 f2 m
 | 0,_=>rfl
 | m+1,h=>by
   rw[esT,esT,rS m fun n hn=>h n (by omega)]
   obtain⟨h1,h2⟩:=h m (by omega)
   by_cases e:nth G m=[]
   · rw[if_pos e,if_pos (h1.1 e)]
   · obtain⟨a,b⟩:=h2 e
     rw[if_neg e,if_neg (fun k=>e (h1.2 k)),a,b]
theorem CP{G G2:List (List Int)}{f f2:Nat→Nat}{n:Nat}:∀m,n<m→(∀k,k<m→k≠n→(nth G k=[]↔nth G2 k=[])∧(nth G k≠[]→f k=f2 k∧(nth G k).length=(nth G2 k).length))→
 (esT G f m).set n (if nth G2 n=[]then .nil else .ref (f2 n) 0 (nth G2 n).length)=esT G2 f2 m
 | 0,h,_=>by omega
 | m+1,h,hh=>by
   rw[esT,esT]
   by_cases e:n=m
   · subst e
     rw[List.set_append_right _ _ (by rw[lD];exact aLs _),lD,Nat.sub_self,List.set_cons_zero,rS n fun k hk=>hh k (by omega) (by omega)]
   · rw[List.set_append_left _ _ (by rw[lD];omega),CP m (by omega) fun k hk hne=>hh k (by omega) hne]
     obtain⟨h1,h2⟩:=hh m (by omega) (fun k=>e k.symm)
     congr 2
     by_cases e2:nth G m=[]
     · rw[if_pos e2,if_pos (h1.1 e2)]
     · obtain⟨a,b⟩:=h2 e2
       rw[if_neg e2,if_neg (fun k=>e2 (h1.2 k)),a,b]
theorem y5{G G1 G2:List (List Int)}:∀m,(∀n,n<m→nth G n≠[]→nth G1 n=nth G2 n)→aT G G1 m=aT G G2 m
 | 0,_=>rfl
 | m+1,h=>by
   rw[aT,aT,y5 m fun n hn=>h n (by omega)]
   by_cases e:nth G m=[]
   · rw[if_pos e,if_pos e]
   · rw[if_neg e,if_neg e,h m (by omega) e]
theorem Jy{G G1 G2:List (List Int)}{n:Nat}(hn:nth G n≠[]):∀m,n<m→(∀k,k<m→k≠n→nth G k≠[]→nth G1 k=nth G2 k)→(aT G G1 m).set (rk G n) (arA (nth G2 n))=aT G G2 m
 | 0,h,_=>by omega
 | m+1,h,hh=>by
   rw[aT,aT]
   by_cases e:n=m
   · subst e
     rw[if_neg hn,if_neg hn,List.set_append_right _ _ (by rw[kn];exact aLs _),kn,Nat.sub_self,List.set_cons_zero,y5 n fun k hk hne=>hh k (by omega) (by omega) hne]
   · rw[List.set_append_left _ _ (by rw[kn];exact wB G (by omega) hn),Jy hn m (by omega) fun k hk hne=>hh k (by omega) hne]
     congr 1
     by_cases e2:nth G m=[]
     · rw[if_pos e2,if_pos e2]
     · rw[if_neg e2,if_neg e2,hh m (by omega) (fun k=>e k.symm) e2]
theorem TE(T:List Bool)(n:Nat)(x:Bool):(bls T).set n (B x)=bls (T.set n x):=by simp[bls]
theorem TF(T:List Bool):(bls T).length=T.length:=by simp[bls]
theorem Jz{l:List Bool}{k:Nat}(h:k<l.length):l[k]?=some (nth l k):=by
 unfold nth
 rw[aLc h,aLl,aLc h];rfl
theorem TG{T:List Bool}{n:Nat}(h:n<T.length):(bls T)[n]?=some (B (nth T n)):=by
 unfold bls
 rw[aLn,aLn,Jz h];rfl
structure Acc(W:List (List Int))(S:List Int)(G:List (List Int))(T T2:Nat→Bool):Prop where
 sub:∀n,T n=true→T2 n=true
 clo:∀n,n<S.length→T2 n=true→T n=false→nth S n≤(nth G n).length∧∀j∈nth G n,yN W S j fun x=>T2 x=true
theorem Acc.refl(W:List (List Int))(S:List Int)(G:List (List Int))(T:Nat→Bool):Acc W S G T T:=⟨fun _ h=>h,fun n _ h k=>by rw[h]at k;cases k⟩
theorem yN.mono{W:List (List Int)}{S:List Int}{i:Int}{U V:Nat→Prop}(h:yN W S i U)(s:∀n,U n→V n):yN W S i V:=fun x hx hw=>s x (h x hx hw)
theorem Acc.trans{W:List (List Int)}{S:List Int}{G:List (List Int)}{T T2 T3:Nat→Bool}(h:Acc W S G T T2)(g:Acc W S G T2 T3):Acc W S G T T3:=by
 refine⟨fun n hn=>g.sub n (h.sub n hn),fun n hn h3 h1=>?_⟩
 cases h2:T2 n with
 | true=>
   obtain⟨a,b⟩:=h.clo n hn h2 h1
   exact⟨a,fun j hj=>(b j hj).mono g.sub⟩
 | false=>exact g.clo n hn h3 h2
theorem vZ.acc{W:List (List Int)}{S:List Int}{G:List (List Int)}{i:Int}{T T2:Nat→Bool}(h:vZ W S G i T T2):Acc W S G T T2:=⟨h.sub,h.clo⟩
theorem Acc.num{W:List (List Int)}{S:List Int}{G:List (List Int)}{T T2:List Bool}{n:Nat}(hn:n<T.length)(h:Acc W S G (Tb (T.set n true)) (Tb T2))(hf:nth S n≤(nth G n).length)(hm:∀j∈nth G n,yN W S j fun x=>Tb T2 x=true):Acc W S G (Tb T) (Tb T2):=by
 have e1:nth (T.set n true) n=true:=by
  unfold nth
  rw[aLl,aLj hn];rfl
 have e2:∀m,m≠n→nth (T.set n true) m=nth T m:=fun m hm=>by
  unfold nth
  rw[aLl,aLl,aLi (fun k=>hm k.symm)]
 refine⟨fun m hm=>h.sub m ?_,fun m hm h2 h1=>?_⟩
 · by_cases e:m=n
   · subst e;exact e1
   · simp only[Tb]at hm ⊢;rw[e2 m e];exact hm
 · by_cases e:m=n
   · subst e;exact⟨hf,hm⟩
   · refine h.clo m hm h2 ?_
     simp only[Tb]at h1 ⊢;rw[e2 m e];exact h1
theorem aat{W:List (List Int)}{S:List Int}{T:List Bool}{G:List (List Int)}:finish (3+rk G G.length) 0 (fT W S T G) [B false]=some (B false,fT W S T G):=by
 have el:=lE W S T G
 have ho:((fT W S T G).take (3+rk G G.length)).all (fun o=>o.ds.all (old (3+rk G G.length) depth))=true:=by
  rw[List.take_of_length_le (by omega),aLx]
  intro o ho
  have ht:∀ts:List Ev.T,(ts.map D.t).all (old (3+rk G G.length) depth)=true:=fun ts=>by
   rw[aLx];intro d hd;obtain⟨t,_,rfl⟩:=List.mem_map.1 hd;rfl
  simp only[fT,jv,List.mem_cons]at ho
  rcases ho with rfl | rfl | rfl | ho
  · simp[Obj.ds,old,depth];omega
  · exact ht _
  · have:∀m,m≤G.length→(esT G (fun n=>3+rk G n) m).all (old (3+rk G G.length) depth)=true:=by
     intro m
     induction m with
     | zero=>intro _;rfl
     | succ m ih=>
       intro hm
       rw[esT,List.all_append,ih (by omega)]
       by_cases e:nth G m=[]
       · simp[e,old,depth]
       · have:=wB G (n:=m) (m:=G.length) (by omega) e
         simp[e,old,depth];omega
    exact this _ (aLs _)
  · obtain⟨l,rfl⟩:=uj _ _ _ o ho
    exact ht _
 have hr:([B false].all (old (3+rk G G.length) depth))=true:=rfl
 unfold finish
 simp only[if_true,aW,nJ,aLq,aLw]
 rw[hr,ho]
 simp only[Bool.and_self,if_true,fW,List.flatMap_cons,List.flatMap_nil,dC,List.append_nil,List.all_nil,qP]
 rw[List.take_of_length_le (by omega)]
 rfl
theorem yb{sel:List Nat}{k:Nat}(hk:k∉sel):∀ {l:List Nat},(∀x∈l,x∈sel∨x=k)→k∈l→b7 sel l=sel++[k]
 | [],_,h=>by simp at h
 | i::r,h,hm=>by
   by_cases e:i=k
   · subst e
     have:sel.contains i=false:=by rw[Bool.eq_false_iff];exact fun hc=>hk (List.contains_iff_mem.1 hc)
     rw[b7,this]
     simp only[aLt,if_false]
     exact tq fun x hx=>by
      rcases h x (List.mem_cons_of_mem _ hx)with a | a
      · exact List.mem_append_left _ a
      · subst a;simp
   · have hi:i∈sel:=by rcases h i List.mem_cons_self with a | a;exact a;exact absurd a e
     rw[b7,List.contains_iff_mem.2 hi]
     simp only[if_true]
     refine yb hk (fun x hx=>h x (List.mem_cons_of_mem _ hx)) ?_
     rcases List.mem_cons.1 hm with a | a
     · exact absurd a.symm e
     · exact a
theorem JA{n i:Nat}(h:i<n):idxOf (List.range n) i=some i:=gF _ _ _ List.nodup_range (aLp h)
theorem y6(k:Nat)(ts:List Ev.T):(ts.map D.t).all (old k depth)=true:=by
 rw[aLx];intro d hd;obtain⟨t,_,rfl⟩:=List.mem_map.1 hd;rfl
theorem tu{G:List (List Int)}{f:Nat→Nat}{j:Nat}:∀ {m:Nat},j∈idT G f m↔∃n,n<m∧nth G n≠[]∧j=f n
 | 0=>by simp[idT]
 | m+1=>by
   rw[idT,List.mem_append,tu]
   constructor
   · rintro (⟨n,a,b,c⟩ | h)
     · exact⟨n,by omega,b,c⟩
     · split at h
       · simp at h
       · rename_i hm;exact⟨m,by omega,hm,by simpa using h⟩
   · rintro ⟨n,a,b,c⟩
     by_cases e:n=m
     · subst e;right;rw[if_neg b];simp[c]
     · exact .inl ⟨n,by omega,b,c⟩
theorem CQ{G:List (List Int)}{f:Nat→Nat}{k:Nat}:∀m,(∀n,n<m→nth G n≠[]→f n<k)→(esT G f m).all (old k depth)=true
 | 0,_=>rfl
 | m+1,h=>by
   rw[esT,List.all_append,CQ m fun n hn=>h n (by omega)]
   by_cases e:nth G m=[]
   · simp[e,old,depth]
   · have:=h m (by omega) e
     simp[e,old,depth,this]
theorem aau{W:List (List Int)}{S:List Int}{T:List Bool}{G G2:List (List Int)}{x:ae}(gl:G2.length=G.length)(h:EF G G2 x):finish (3+rk G G.length) 0 (jv W S T G2 (fK G) (aT G G2 G.length++x)) [B true]=some (B true,jv W S T G2 (fK G) (aT G G2 G.length++x)):=by
 have al:=kn G G2 G.length
 have fk:∀n,n<G.length→nth G n≠[]→fK G n<3+rk G G.length:=fun n hn hne=>by
  have:=wB G (n:=n) (m:=G.length) hn hne
  unfold fK;rw[if_neg hne];omega
 have hr:([B true].all (old (3+rk G G.length) depth))=true:=rfl
 have ra:∀K:ae,dC K depth (B true)=[]:=fun _=>rfl
 rcases h.new with⟨rfl,hn⟩ | ⟨n0,n1,n2,n3,rfl,n4⟩
 · have el:(jv W S T G2 (fK G) (aT G G2 G.length++[])).length=3+rk G G.length:=by simp only[jv,List.append_nil,List.length_cons,al];omega
   have ho:((jv W S T G2 (fK G) (aT G G2 G.length++[])).take (3+rk G G.length)).all (fun o=>o.ds.all (old (3+rk G G.length) depth))=true:=by
    rw[List.take_of_length_le (by omega),aLx]
    intro o ho
    simp only[jv,List.append_nil,List.mem_cons]at ho
    rcases ho with rfl | rfl | rfl | ho
    · simp[Obj.ds,old,depth];omega
    · exact y6 _ _
    · refine CQ _ fun n hn' hne=>fk n (by omega) fun e=>hne (hn n e)
    · obtain⟨l,rfl⟩:=uj _ _ _ o ho
      exact y6 _ _
   unfold finish
   simp only[if_true,aW,nJ,aLq,aLw]
   rw[hr,ho]
   simp only[Bool.and_self,if_true,fW,List.flatMap_cons,List.flatMap_nil,ra,List.append_nil,List.all_nil,qP]
   rw[List.take_of_length_le (by simp only[jv,List.length_cons,al];omega)]
 · generalize hk:3+rk G G.length=k at*
   generalize hK:jv W S T G2 (fK G) (aT G G2 G.length++[arA (nth G2 n0)])=K at*
   have el:K.length=k+1:=by rw[← hK];simp only[jv,List.length_cons,aLv,al,List.length_nil];omega
   have f0:fK G n0=k:=by unfold fK;rw[if_pos n2];exact hk
   have kk:K[k]?=some (arA (nth G2 n0)):=by
    rw[← hK,←hk,show 3+rk G G.length=rk G G.length+1+1+1 by omega]
    simp only[jv,List.getElem?_cons_succ]
    rw[aLh (by omega),al,Nat.sub_self];rfl
   have hg:K[2]?=some (.arr 1 false 0 (esT G2 (fK G) G2.length)):=by rw[← hK];rfl
   have k3:3≤k:=by omega
   -- the names that the old objects hold
   have ids_:∀i,i<k→∀j∈(match K[i]? with | some o=>o.ds.flatMap (ids depth) | none=>[]),j<k∨j=k:=by
    intro i hi j hj
    have mem:∃o,K[i]?=some o∧j∈o.ds.flatMap (ids depth):=by
     cases ho:K[i]? with
     | none=>rw[ho]at hj;simp at hj
     | some o=>rw[ho]at hj;exact⟨o,rfl,hj⟩
    obtain⟨o,ho,hj⟩:=mem
    have hm:o∈K:=aLd ho
    rw[← hK]at hm
    simp only[jv,List.mem_cons,List.mem_append,List.not_mem_nil,or_false]at hm
    rcases hm with rfl | rfl | rfl | hm | rfl
    · have:j=2:=by simpa [Obj.ds,ids,depth]using hj
      omega
    · rw[show(Obj.arr 1 false 0 (bls T)).ds.flatMap (ids depth)=[]from CL T]at hj;simp at hj
    · rw[show(Obj.arr 1 false 0 (esT G2 (fK G) G2.length)).ds.flatMap (ids depth)=_ from yY _ _ _]at hj
      obtain⟨n,a,b,rfl⟩:=tu.1 hj
      by_cases e:nth G n=[]
      · right;unfold fK;rw[if_pos e];exact hk
      · left;exact fk n (by omega) e
    · obtain⟨l,rfl⟩:=uj _ _ _ o hm
      rw[CM]at hj;simp at hj
    · rw[CM]at hj;simp at hj
   have fr:b7 (List.range k) (iD K (List.range k))=List.range k++[k]:=by
    refine yb (by simp) (fun j hj=>?_) ?_
    · unfold iD at hj
      obtain⟨i,hi,hj⟩:=List.mem_flatMap.1 hj
      rcases ids_ i (aLu.1 hi) j hj with a | a
      · exact .inl (aLu.2 a)
      · exact .inr a
    · unfold iD
      refine List.mem_flatMap.2 ⟨2,aLu.2 (by omega),?_⟩
      rw[hg]
      show k∈(esT G2 (fK G) G2.length).flatMap (ids depth)
      rw[yY]
      exact tu.2 ⟨n0,by omega,n3,f0.symm⟩
   have no:((K.take k).all (fun o=>o.ds.all (old k depth)))=false:=by
    rw[Bool.eq_false_iff]
    intro hh
    rw[aLx]at hh
    have h2:(Obj.arr 1 false 0 (esT G2 (fK G) G2.length))∈K.take k:=by
     refine aLd (i:=2) ?_
     rw[List.getElem?_take_of_lt (by omega)];exact hg
    have h3:=hh _ h2
    simp only[Obj.ds,aLx]at h3
    have h4:=h3 (.ref (fK G n0) 0 (nth G2 n0).length) (by
     have:=yX G2 (fK G) (n:=n0) G2.length (by omega)
     rw[if_neg n3]at this
     exact aLd this)
    rw[f0]at h4
    simp[old,depth]at h4
   have pk1:pick K [k]=some [arA (nth G2 n0)]:=by simp only[pick,kk,aLq,aLw]
   have fz:cX K (arA (nth G2 n0))=some (arA (nth G2 n0)):=by
    have e:∀ts:List Ev.T,aW (fun d=>(frz K depth d).map D.t) (ts.map D.t)=some (ts.map D.t):=fun ts=>Jv fun t _=>rfl
    simp only[cX,ints,e,aLw]
   have ar0:(arA (nth G2 n0)).ds.flatMap (dC K depth)=[]:=by
    rw[List.flatMap_eq_nil_iff]
    intro d hd
    simp only[Obj.ds,ints]at hd
    obtain⟨t,_,rfl⟩:=List.mem_map.1 hd
    rfl
   have kl:jm K (max 0 1) (List.range k) (iD K (List.range k))=some ([k],[arA (nth G2 n0)]):=by
    show jm K (0+1) (List.range k) (iD K (List.range k))=_
    simp only[jm]
    rw[fr]
    have d1:(List.range k++[k]).drop (List.range k).length=[k]:=List.drop_left
    rw[d1,pk1]
    simp only[aLq,if_true,List.flatMap_cons,List.flatMap_nil,ar0,List.append_nil,List.all_nil,aW,fz,aLw]
   have ix:∀j,j<k∨j=k→idxOf (List.range k++[k]) j=some j:=fun j hj=>by
    rw[← List.range_succ];exact JA (by omega)
   have rn:aW (b5 (idxOf (List.range k++[k]))) K=some K:=by
    have e1:aW (ren (idxOf (List.range k++[k])) 8) (esT G2 (fK G) G2.length)=some (esT G2 (fK G) G2.length):=wC (u:=idxOf (List.range k++[k])) (f2:=fK G) G2.length (fun n hn hne=>by
     refine ix _ ?_
     by_cases e:nth G n=[]
     · right;unfold fK;rw[if_pos e];exact hk
     · left;exact fk n (by omega) e)
    have e2:aW (ren (idxOf (List.range k++[k])) 8) (bls T)=some (bls T):=mG _ _
    have e3:aW (b5 (idxOf (List.range k++[k]))) (aT G G2 G.length++[arA (nth G2 n0)])=some (aT G G2 G.length++[arA (nth G2 n0)]):=by
     refine s8 fun o ho=>?_
     have:∃l,o=arA l:=by
      rcases List.mem_append.1 ho with a | a
      · exact uj _ _ _ o a
      · exact⟨_,List.mem_singleton.1 a⟩
     obtain⟨l,rfl⟩:=this
     simp only[b5,ints,mG,aLw]
    have e4:=ix 2 (by omega)
    rw[← hK]
    simp only[jv,aW,b5,ren,depth,e4,aLw,aLq]
    rw[e1,e2,e3];rfl
   have tk:K.take k++[arA (nth G2 n0)]=K:=by
    have:=List.take_append_drop k K
    have d:K.drop k=[arA (nth G2 n0)]:=by
     apply List.ext_getElem?
     intro j
     rw[List.getElem?_drop]
     cases j with
     | zero=>exact kk
     | succ j=>rw[aLm (by omega),aLm (by simp)]
    rw[d]at this
    exact this
   have i0:([B true].flatMap (ids depth))=[]:=rfl
   unfold finish
   simp only[if_true,aW,nJ,aLq,aLw]
   rw[hr,no]
   simp only[Bool.and_false,aLt,if_false]
   rw[i0,List.nil_append,kl]
   simp only[aLq,fW,if_true,List.flatMap_cons,List.flatMap_nil,ra,List.append_nil,List.all_nil]
   rw[tk,rn]
   rfl
theorem JB(l:List Int):(ints l).length=l.length:=by simp[ints]
theorem u9(W:List (List Int))(S:List Int)(T:List Bool)(G:List (List Int)):dU (3+rk G G.length) (fT W S T G)=true:=by
 have h:(fT W S T G).all (fun o=>o.ds.all (old (3+rk G G.length) depth))=true:=by
  rw[aLx]
  intro o ho
  simp only[fT,jv,List.mem_cons]at ho
  rcases ho with rfl | rfl | rfl | ho
  · simp[Obj.ds,old,depth];omega
  · exact y6 _ _
  · exact CQ _ fun n hn hne=>by have:=wB G (n:=n) (m:=G.length) hn hne;omega
  · obtain⟨l,rfl⟩:=uj _ _ _ o ho
    exact y6 _ _
 rw[← jd];exact h
theorem M0{W:List (List Int)}{S:List Int}{T:List Bool}{G G1:List (List Int)}{x:ae}{n:Nat}(hl:G1.length=G.length)(hn:n<G.length)(hne:nth G n≠[]){l:List Int}(hll:l.length=(nth G1 n).length)(h1:nth G1 n≠[]):
 (jv W S T G1 (fK G) (aT G G1 G.length++x)).set (3+rk G n) (arA l)=jv W S T (G1.set n l) (fK G) (aT G (G1.set n l) G.length++x):=by
 have e1:esT G1 (fK G) G1.length=esT (G1.set n l) (fK G) (G1.set n l).length:=by
  rw[List.length_set]
  refine rS _ fun m hm=>?_
  by_cases e:m=n
  · subst e
    rw[fD hm]
    refine⟨⟨fun k=>absurd k h1,fun k=>?_⟩,fun _=>⟨rfl,hll.symm⟩⟩
    rw[k]at hll;exact List.length_eq_zero_iff.1 hll.symm
  · rw[cP (fun k=>e k.symm)]
    exact⟨Iff.rfl,fun _=>⟨rfl,rfl⟩⟩
 have e2:(aT G G1 G.length++x).set (rk G n) (arA l)=aT G (G1.set n l) G.length++x:=by
  rw[List.set_append_left _ _ (by rw[kn];exact wB G hn hne)]
  have:=Jy (G1:=G1) (G2:=G1.set n l) hne G.length hn fun k hk hkn _=>by rw[cP (fun z=>hkn z.symm)]
  rw[fD (by omega)]at this
  rw[this]
 rw[show 3+rk G n=rk G n+1+1+1 by omega]
 rw[List.length_set]at e1
 simp only[jv,List.set_cons_succ,e2,List.length_set,←e1]
abbrev inV(i n j k L wl:Nat)(l:List Int)(gD:D)(gl:Nat):List D:=[.bp 0 0,I i,.ref 1 0 L,.und,I n,.und,.und,.t (tL l),I wl,I j,gD,I gl,I k]
def EH(G:List (List Int))(n:Nat):D:=if nth G n=[]then .nil else .ref (3+rk G n) 0 (nth G n).length
theorem af4{W:List (List Int)}{S:List Int}{G:List (List Int)}(hW:W.length≤1000)(hS:S.length≤1000)(hG:GI W S G)(hc:∀n,(nth G n).length≤1000000){i n:Nat}(hi:i<W.length)(hn:n<S.length)(hw:(n:Int)∈nth W i){T T1:List Bool}(ht:nth T n=false)(hT:∀m,nth T m=true→nth T1 m=true)(h1:nth T1 n=true)(tl:T1.length=S.length)
 (ih:∀T':List Bool,T'.length=S.length→left T'≤left T1→∀o:Nat,o<W.length→∃r,aG 0 N.az [.bp 0 0,I o,.ref 1 0 S.length] (fT W S T' G)=some (B r.1,r.2)∧MZ W S G o T' r) (j wl:Nat) (z3 z5 z6:D):
 ∃q,exS aG K.jt ⟨[.bp 0 0,I i,.ref 1 0 S.length,z3,I n,z5,z6,.t (tL (nth W i)),I wl,I j,EH G n,I (nth G n).length,I 0],fT W S T1 G⟩=some q∧
  ((∃T2:List Bool,q=(.exit 2,⟨inV i n j (nth G n).length S.length wl (nth W i) (EH G n) (nth G n).length,fT W S T2 G⟩)∧T2.length=S.length∧Acc W S G (Tb T1) (Tb T2)∧left T2≤left T1∧∀o∈nth G n,yN W S o fun x=>Tb T2 x=true)∨
   ∃(T2:List Bool) (G2:List (List Int)) (x:ae) (vs:List D),q=(.ret,⟨vs,jv W S T2 G2 (fK G) (aT G G2 G.length++x)⟩)∧vs[3]?=some (B true)∧T2.length=S.length∧EF G G2 x∧kT W S G i (Tb T) G2):=by
 have gl:=hG.len
 refine AQ (fun k st=>∃T':List Bool,T'.length=S.length∧Acc W S G (Tb T1) (Tb T')∧left T'≤left T1∧(∀q,q<k→yN W S (nth (nth G n) q) fun x=>Tb T' x=true)∧st=⟨inV i n j k S.length wl (nth W i) (EH G n) (nth G n).length,fT W S T' G⟩) (nth G n).length _ ⟨T1,tl,Acc.refl _ _ _ _,aLs _,fun q hq=>by omega,by simp only[go_sem,inV,Int.natCast_zero]⟩ ?_ ?_
 · rintro k st hk ⟨T',tl',acc,lf,ws,rfl⟩
   have hne:nth G n≠[]:=fun e=>by rw[e]at hk;simp at hk
   have gD:EH G n= .ref (3+rk G n) 0 (nth G n).length:=if_neg hne
   obtain⟨o1,o2,o3⟩:=hG.wnt n hn _ (aLd (mb hk))
   obtain⟨r,hr,dn⟩:=ih T' tl' lf (nth (nth G n) k).toNat (by omega)
   rw[Int.toNat_of_nonneg o1]at hr dn
   have oc:=Gp (n:=S.length) hr dn
   have rl:=wB G (n:=n) (m:=G.length) (by omega) hne
   have cl:=lE W S T' G
   have ka:(fT W S T' G)[3+rk G n]?=some (arA (nth G n)):=(CO W S T' G).hf n (by omega) hne
   have eg:(ints (nth G n))[k]?=some (I (nth (nth G n) k)):=yM _ _ hk
   have el:=JB (nth G n)
   have glb:=hc n
   rcases dn with⟨G1,T2,x,rfl,p,nx,tl2⟩ | ⟨T2,rfl,p,tl2,lf2⟩
   · right
     have g1:=p.gi.len
     have pn:nth G1 n=nth G n:=p.old n (by
      by_cases e:Tb T1 n=true
      · exact acc.sub n e
      · exact absurd h1 e)
     have st:=M0 (W:=W) (S:=S) (T:=T2) (G:=G) (G1:=G1) (x:=x) (by omega) (by omega) hne (l:=(nth G n).set k i) (by rw[List.length_set,pn]) (by rw[pn];exact hne)
     have st2:arA ((nth G n).set k (i:Int))= .arr 1 false 0 ((ints (nth G n)).set k (I i)):=by simp[arA,ints]
     rw[st2]at st
     have mv:=Gr hG hi hn hw hk ht (fun m hm=>acc.sub m (hT m hm)) (acc.sub n h1) p
     have nx2:EF G (G1.set n ((nth G n).set k (i:Int))) x:=by
      have en:nth (G1.set n ((nth G n).set k (i:Int))) n≠[]:=by
       rw[fD (by omega)]
       intro e
       have:=congrArg List.length e
       rw[List.length_set]at this
       simp at this
       exact hne this
      refine⟨fun m hm=>?_,?_⟩
      · by_cases e:m=n
        · subst e;exact en
        · rw[cP (fun z=>e z.symm)];exact nx.keep m hm
      · rcases nx.new with⟨a,b⟩ | ⟨n0,a,b,c,d,e⟩
        · refine .inl ⟨a,fun m hm=>?_⟩
          have:m≠n:=fun z=>by subst z;exact hne hm
          rw[cP (fun z=>this z.symm)];exact b m hm
        · have e0:n≠n0:=fun z=>by subst z;exact hne b
          refine .inr ⟨n0,a,b,by rw[cP e0];exact c,by rw[cP e0];exact d,fun m hm1 hm2=>?_⟩
          have:n≠m:=fun z=>by subst z;exact hne hm2
          rw[cP this];exact e m hm1 hm2
     have k0:(jv W S T2 G1 (fK G) (aT G G1 G.length++x))[0]?=some (.box [.t (.sl (W.map tL)),.t (tL S),.ref 2 0 G1.length]):=rfl
     have k2:(jv W S T2 G1 (fK G) (aT G G1 G.length++x))[2]?=some (.arr 1 false 0 (esT G1 (fK G) G1.length)):=rfl
     have k3:(jv W S T2 G1 (fK G) (aT G G1 G.length++x))[3+rk G n]?=some (arA (nth G n)):=by
      rw[show 3+rk G n=rk G n+1+1+1 by omega]
      simp only[jv,List.getElem?_cons_succ]
      rw[aLg (by rw[kn];exact rl),EC G G1 hne G.length (by omega),pn]
     have ee:(esT G1 (fK G) G1.length)[n]?=some (.ref (3+rk G n) 0 (nth G n).length):=by
      rw[yX G1 (fK G) G1.length (by omega),pn,if_neg hne]
      unfold fK;rw[if_neg hne]
     have e3:=lD G1 (fK G) G1.length
     simp only at oc tl2
     have fin:∃vs,exS aG K.cY ⟨inV i n j k S.length wl (nth W i) (EH G n) (nth G n).length,fT W S T' G⟩=some (.ret,⟨vs,jv W S T2 (G1.set n ((nth G n).set k (i:Int))) (fK G) (aT G (G1.set n ((nth G n).set k (i:Int))) G.length++x)⟩)∧vs[3]?=some (B true):=by
      rw[gD]
      generalize jv W S T2 (G1.set n ((nth G n).set k (i:Int))) (fK G) (aT G (G1.set n ((nth G n).set k (i:Int))) G.length++x)=K3 at*
      generalize jv W S T2 G1 (fK G) (aT G G1 G.length++x)=K2 at*
      generalize fT W S T' G=K1 at*
      generalize esT G1 (fK G) G1.length=E at*
      generalize nth (nth G n) k=oth at*
      generalize (nth G n).length=gln at*
      clear ih hT nx nx2 mv p pn ws acc
      simp only[arA]at*
      generalize ints (nth G n)=GG at*
      generalize 3+rk G n=id at*
      apply Exists.intro
      apply And.intro
      · simp(disch:=omega)only[go_sem,K.cY,↓reduceIte,ka,eg,el,oc,k0,k2,k3,ee,e3,st,reduceAdd,reduceSub]
        rfl
      · rfl
     obtain⟨vs,f1,f2⟩:=fin
     exact⟨_,f1,by simp,.inr ⟨T2,_,x,vs,rfl,f2,by omega,nx2,mv⟩⟩
   · left
     simp only at oc tl2 lf2
     refine⟨⟨inV i n j (k+1) S.length wl (nth W i) (EH G n) (nth G n).length,fT W S T2 G⟩,?_,T2,by omega,acc.trans p.acc,by omega,fun q hq=>?_,rfl⟩
     · have ho:=u9 W S T2 G
       have cl2:=lE W S T2 G
       have tk:(fT W S T2 G).take (3+rk G G.length)=fT W S T2 G:=List.take_of_length_le (by omega)
       rw[gD,cl]
       generalize fT W S T2 G=K2 at*
       generalize fT W S T' G=K1 at*
       generalize nth (nth G n) k=oth at*
       generalize (nth G n).length=gln at*
       clear ih hT p ws acc
       simp only[arA]at*
       generalize ints (nth G n)=GG at*
       have k3:3≤3+rk G G.length:=by omega
       have i3:3+rk G n<3+rk G G.length:=by omega
       generalize 3+rk G n=id at*
       generalize 3+rk G G.length=kL at*
       have b0:ltB 0 kL=true:=by rw[gM];simp;omega
       have b1:ltB 1 kL=true:=by rw[gM];simp;omega
       have b2:ltB id kL=true:=by rw[gM];simp;omega
       simp(disch:=omega)only[go_sem,K.cY,↓reduceIte,ka,eg,el,oc,ho,tk,cl2,b0,b1,b2,reduceAdd,reduceSub]
       rfl
     · by_cases e:q=k
       · subst e;exact p.wnt
       · exact(ws q (by omega)).mono p.sub
 · rintro st ⟨T',tl',acc,lf,ws,rfl⟩
   refine⟨(.exit 2,⟨inV i n j (nth G n).length S.length wl (nth W i) (EH G n) (nth G n).length,fT W S T' G⟩),?_,by simp,.inl ⟨T',rfl,tl',acc,lf,fun o ho=>?_⟩⟩
   · generalize fT W S T' G=K1
     generalize (nth G n).length=gln
     simp(disch:=omega)only[go_sem,K.cY,↓reduceIte,reduceAdd,reduceSub]
   · obtain⟨k,hk⟩:=aLf.1 ho
     have kl:=(aLe.1 hk).1
     have:=ws k kl
     have e:nth (nth G n) k=o:=by have:=mb kl;rw[hk]at this;exact(Option.some.inj this).symm
     rwa [e]at this
abbrev JC(i j L wl:Nat)(l:List Int):List D:=[.bp 0 0,I i,.ref 1 0 L,.und,.und,.und,.und,.t (tL l),I wl,I j,.und,.und,.und]
theorem JD{W:List (List Int)}{S:List Int}{T:List Bool}{G:List (List Int)}{n:Nat}(hn:n<G.length)(hne:nth G n≠[])(i:Int):
 (.box [.t (.sl (W.map tL)),.t (tL S),.ref 2 0 G.length]:: .arr 1 false 0 (bls T):: .arr 1 false 0 ((esT G (fun n=>3+rk G n) G.length).set n (.ref (3+rk G n) 0 ((nth G n).length+1)))::(aT G G G.length).set (rk G n) (arA (nth G n++[i])):ae)=
 jv W S T (G.set n (nth G n++[i])) (fK G) (aT G (G.set n (nth G n++[i])) G.length++[]):=by
 have e1:=CP (G:=G) (G2:=G.set n (nth G n++[i])) (f:=fun n=>3+rk G n) (f2:=fK G) G.length hn (fun k hk hkn=>by
  rw[cP (fun z=>hkn z.symm)]
  exact⟨Iff.rfl,fun h=>⟨by unfold fK;rw[if_neg h],rfl⟩⟩)
 rw[fD hn,if_neg (by simp)]at e1
 have f:fK G n=3+rk G n:=by unfold fK;rw[if_neg hne]
 rw[f,aLv,List.length_singleton]at e1
 have e2:=Jy (G1:=G) (G2:=G.set n (nth G n++[i])) hne G.length hn (fun k hk hkn _=>by rw[cP (fun z=>hkn z.symm)])
 rw[fD hn]at e2
 simp only[jv,e1,e2,List.length_set,List.append_nil]
theorem JE{W:List (List Int)}{S:List Int}{T:List Bool}{G:List (List Int)}{n:Nat}(hn:n<G.length)(hne:nth G n=[])(i:Int):
 (.box [.t (.sl (W.map tL)),.t (tL S),.ref 2 0 G.length]:: .arr 1 false 0 (bls T):: .arr 1 false 0 ((esT G (fun n=>3+rk G n) G.length).set n (.ref ((aT G G G.length).length+1+1+1) 0 1))::(aT G G G.length++[.arr 1 false 0 [I i]]):ae)=
 jv W S T (G.set n [i]) (fK G) (aT G (G.set n [i]) G.length++[arA (nth (G.set n [i]) n)]):=by
 have e1:=CP (G:=G) (G2:=G.set n [i]) (f:=fun n=>3+rk G n) (f2:=fK G) G.length hn (fun k hk hkn=>by
  rw[cP (fun z=>hkn z.symm)]
  exact⟨Iff.rfl,fun h=>⟨by unfold fK;rw[if_neg h],rfl⟩⟩)
 rw[fD hn,if_neg (by simp)]at e1
 have f:fK G n=(aT G G G.length).length+1+1+1:=by unfold fK;rw[if_pos hne,kn];omega
 rw[f,List.length_singleton]at e1
 have e2:aT G (G.set n [i]) G.length=aT G G G.length:=y5 _ fun k hk hke=>by rw[cP (fun z=>by subst z;exact hke hne)]
 rw[fD hn,e2]
 simp only[jv,e1,List.length_set]
 rfl
theorem JF{G:List (List Int)}{n:Nat}(hn:n<G.length)(hne:nth G n≠[])(i:Int):EF G (G.set n (nth G n++[i])) []:=by
 refine⟨fun m hm=>?_,.inl ⟨rfl,fun m hm=>?_⟩⟩
 · by_cases e:m=n
   · subst e;rw[fD hn];simp
   · rw[cP (fun z=>e z.symm)];exact hm
 · have:n≠m:=fun z=>by subst z;exact hne hm
   rw[cP this];exact hm
theorem JG{G:List (List Int)}{n:Nat}(hn:n<G.length)(hne:nth G n=[])(i:Int):EF G (G.set n [i]) [arA (nth (G.set n [i]) n)]:=by
 refine⟨fun m hm=>?_,.inr ⟨n,hn,hne,by rw[fD hn];simp,rfl,fun m hm1 hm2=>?_⟩⟩
 · have:n≠m:=fun z=>by subst z;exact hm hne
   rw[cP this];exact hm
 · rw[cP (fun z=>hm1 z.symm)];exact hm2
theorem CR{T:List Bool}{n:Nat}(h:n<T.length):nth (T.set n true) n=true:=by
 unfold nth
 rw[aLl,aLj h];rfl
theorem EI{T:List Bool}{n:Nat}(h:n<T.length){m:Nat}(hm:nth T m=true):nth (T.set n true) m=true:=by
 by_cases e:n=m
 · subst e;exact CR h
 · unfold nth at hm ⊢
   rw[aLl,aLi e,←aLl];exact hm
theorem kT.mono{W:List (List Int)}{S:List Int}{G G2:List (List Int)}{i:Int}{T T2:Nat→Bool}(h:kT W S G i T2 G2)(s:∀n,T n=true→T2 n=true):kT W S G i T G2:=⟨h.gi,h.pm,fun n hn=>h.old n (s n hn),h.clo⟩
theorem aav{W:List (List Int)}{S:List Int}{G:List (List Int)}(hW:W.length≤1000)(hS:S.length≤1000)(hG:GI W S G)(hc:∀n,(nth G n).length≤1000000)(hwl:∀i,(nth W i).length≤1000000){i:Nat}(hi:i<W.length){T:List Bool}(tl:T.length=S.length)
 (ih:∀T':List Bool,T'.length=S.length→left T'<left T→∀o:Nat,o<W.length→∃r,aG 0 N.az [.bp 0 0,I o,.ref 1 0 S.length] (fT W S T' G)=some (B r.1,r.2)∧MZ W S G o T' r) (z3 z4 z5 z6 z10 z11 z12:D):
 ∃q,exS aG K.ju ⟨[.bp 0 0,I i,.ref 1 0 S.length,z3,z4,z5,z6,.t (tL (nth W i)),I (nth W i).length,I 0,z10,z11,z12],fT W S T G⟩=some q∧
  ((∃T2:List Bool,q=(.exit 0,⟨JC i (nth W i).length S.length (nth W i).length (nth W i),fT W S T2 G⟩)∧T2.length=S.length∧vZ W S G i (Tb T) (Tb T2)∧left T2≤left T)∨
   ∃(T2:List Bool) (G2:List (List Int)) (x:ae) (vs:List D),q=(.ret,⟨vs,jv W S T2 G2 (fK G) (aT G G2 G.length++x)⟩)∧vs[3]?=some (B true)∧T2.length=S.length∧EF G G2 x∧kT W S G i (Tb T) G2):=by
 have gl:=hG.len
 refine AQ (fun j st=>∃T':List Bool,T'.length=S.length∧Acc W S G (Tb T) (Tb T')∧left T'≤left T∧(∀q,q<j→∀x:Nat,x<S.length→(x:Int)=nth (nth W i) q→Tb T' x=true)∧st=⟨JC i j S.length (nth W i).length (nth W i),fT W S T' G⟩) (nth W i).length _ ⟨T,tl,Acc.refl _ _ _ _,aLs _,fun q hq=>by omega,by simp only[go_sem,JC,Int.natCast_zero]⟩ ?_ ?_
 · rintro j st hj ⟨T',tl',acc,lf,ws,rfl⟩
   have wg:((nth W i).map (Ev.T.int .i64))[j]?=some (tI (nth (nth W i) j)):=bz _ hj
   have li:=IA (nth (nth W i) j) 0 ((S.length:Int)-1)
   have wb:=hwl i
   have cl:=lE W S T' G
   by_cases cin:0≤nth (nth W i) j∧nth (nth W i) j≤(S.length:Int)-1
   · rw[decide_eq_true cin]at li
     obtain⟨n,hn⟩:=Int.eq_ofNat_of_zero_le cin.1
     rw[hn]at cin wg li
     have hnl:n<S.length:=by omega
     have hw:(n:Int)∈nth W i:=by rw[← hn];exact aLd (mb hj)
     have tg:=TG (T:=T') (n:=n) (by omega)
     have bl:=TF T'
     have bl2:n<(bls T').length:=by omega
     have ho:=u9 W S T' G
     have tk:(fT W S T' G).take (3+rk G G.length)=fT W S T' G:=List.take_of_length_le (by omega)
     have k0:(fT W S T' G)[0]?=some (.box [.t (.sl (W.map tL)),.t (tL S),.ref 2 0 G.length]):=rfl
     have k1:(fT W S T' G)[1]?=some (.arr 1 false 0 (bls T')):=rfl
     have k2:(fT W S T' G)[2]?=some (.arr 1 false 0 (esT G (fun n=>3+rk G n) G.length)):=rfl
     have k33:3≤3+rk G G.length:=by omega
     have b0:ltB 0 (3+rk G G.length)=true:=by rw[gM];simp;omega
     have b1:ltB 1 (3+rk G G.length)=true:=by rw[gM];simp;omega
     cases et:nth T' n with
     | true=>
       rw[et]at tg
       left
       refine⟨⟨JC i (j+1) S.length (nth W i).length (nth W i),fT W S T' G⟩,?_,T',tl',acc,lf,fun q hq x hx hxe=>?_,rfl⟩
       · rw[cl]
         generalize fT W S T' G=K1 at*
         generalize 3+rk G G.length=kL at*
         generalize bls T'=Bs at*
         clear ih ws acc
         simp only[JC]
         simp(disch:=omega)only[go_sem,K.aF,↓reduceIte,wg,li,k0,k1,tg,ho,tk,b0,b1,reduceAdd,reduceSub]
       · by_cases e:q=j
         · subst e
           have:x=n:=by omega
           subst this;exact et
         · exact ws q (by omega) x hx hxe
     | false=>
       rw[et]at tg
       have sg:(bls T').set n (B true)=bls (T'.set n true):=TE T' n true
       have st1:(fT W S T' G).set 1 (.arr 1 false 0 (bls (T'.set n true)))=fT W S (T'.set n true) G:=rfl
       have l1:=EE (T:=T') (n:=n) (by omega) et
       have tl1:(T'.set n true).length=S.length:=by rw[List.length_set];exact tl'
       have k4:(fT W S (T'.set n true) G)[0]?=some (.box [.t (.sl (W.map tL)),.t (tL S),.ref 2 0 G.length]):=rfl
       have k5:(fT W S (T'.set n true) G)[2]?=some (.arr 1 false 0 (esT G (fun n=>3+rk G n) G.length)):=rfl
       have eg:(esT G (fun n=>3+rk G n) G.length)[n]?=some (EH G n):=by rw[yX G _ G.length (by omega)];rfl
       have sg2:(S.map (Ev.T.int .i64))[n]?=some (tI (nth S n)):=bz _ hnl
       by_cases hf:((nth G n).length:Int)<nth S n
       · right
         have po:=(Gq hG hi hnl hw hf et).mono acc.sub
         have e3:=lD G (fun n=>3+rk G n) G.length
         have lf2:=decide_eq_true hf
         by_cases hne:nth G n=[]
         · have fs:=JE (W:=W) (S:=S) (T:=T'.set n true) (G:=G) (n:=n) (by omega) hne i
           rw[hne]at lf2 po
           rw[List.nil_append]at po
           have gD:EH G n= .nil:=if_pos hne
           rw[gD]at eg
           have nx:=JG (G:=G) (n:=n) (by omega) hne (i:Int)
           have fin:∃vs,exS aG K.aF ⟨JC i j S.length (nth W i).length (nth W i),fT W S T' G⟩=some (.ret,⟨vs,jv W S (T'.set n true) (G.set n [(i:Int)]) (fK G) (aT G (G.set n [(i:Int)]) G.length++[arA (nth (G.set n [(i:Int)]) n)])⟩)∧vs[3]?=some (B true):=by
            generalize jv W S (T'.set n true) (G.set n [(i:Int)]) (fK G) (aT G (G.set n [(i:Int)]) G.length++[arA (nth (G.set n [(i:Int)]) n)])=K3 at*
            clear ih ws acc po nx
            apply Exists.intro
            apply And.intro
            · simp(disch:=omega)only[go_sem,K.aF,↓reduceIte,wg,li,k0,k1,tg,ho,tk,b0,b1,sg,st1,k4,k5,eg,sg2,lf2,bl2,e3,reduceAdd,reduceSub]
              subst fs
              rfl
            · rfl
           obtain⟨vs,f1,f2⟩:=fin
           exact⟨_,f1,by simp,.inr ⟨T'.set n true,_,_,vs,rfl,f2,tl1,nx,po⟩⟩
         · have fs:=JD (W:=W) (S:=S) (T:=T'.set n true) (G:=G) (n:=n) (by omega) hne i
           have gD:EH G n= .ref (3+rk G n) 0 (nth G n).length:=if_neg hne
           rw[gD]at eg
           have nx:=JF (G:=G) (n:=n) (by omega) hne (i:Int)
           have ka:(fT W S (T'.set n true) G)[3+rk G n]?=some (arA (nth G n)):=(CO W S (T'.set n true) G).hf n (by omega) hne
           rw[show arA (nth G n++[(i:Int)])= .arr 1 false 0 (ints (nth G n)++[D.t (Ev.T.int .i64 i)])by simp[arA,ints]]at fs
           have cb:=hc n
           have sx:∀X,(fT W S (T'.set n true) G).set (3+rk G n) X= .box [.t (.sl (W.map tL)),.t (tL S),.ref 2 0 G.length]:: .arr 1 false 0 (bls (T'.set n true)):: .arr 1 false 0 (esT G (fun n=>3+rk G n) G.length)::(aT G G G.length).set (rk G n) X:=fun X=>by
            rw[show 3+rk G n=rk G n+1+1+1 by omega];rfl
           have fin:∃vs,exS aG K.aF ⟨JC i j S.length (nth W i).length (nth W i),fT W S T' G⟩=some (.ret,⟨vs,jv W S (T'.set n true) (G.set n (nth G n++[(i:Int)])) (fK G) (aT G (G.set n (nth G n++[(i:Int)])) G.length++[])⟩)∧vs[3]?=some (B true):=by
            generalize jv W S (T'.set n true) (G.set n (nth G n++[(i:Int)])) (fK G) (aT G (G.set n (nth G n++[(i:Int)])) G.length++[])=K3 at*
            clear ih ws acc po nx
            apply Exists.intro
            apply And.intro
            · simp(disch:=omega)only[go_sem,K.aF,↓reduceIte,wg,li,k0,k1,tg,ho,tk,b0,b1,sg,st1,k4,k5,eg,sg2,lf2,bl2,e3,ka,sx,reduceAdd,reduceSub]
              subst fs
              rfl
            · rfl
           obtain⟨vs,f1,f2⟩:=fin
           exact⟨_,f1,by simp,.inr ⟨T'.set n true,_,_,vs,rfl,f2,tl1,nx,po⟩⟩
       · obtain⟨q,hq,hc2⟩:=af4 hW hS hG hc hi hnl hw et (T1:=T'.set n true) (fun m hm=>EI (by omega) hm) (CR (by omega)) tl1 (fun T2 h2 h3=>ih T2 h2 (by omega)) j (nth W i).length .und .und .und
         have lf2:=decide_eq_false hf
         have e3:=lD G (fun n=>3+rk G n) G.length
         have cb:=hc n
         rcases hc2 with⟨T2,rfl,tl2,acc2,lf3,ws2⟩ | ⟨T2,G2,x,vs,rfl,v3,tl2,nx,po⟩
         · left
           refine⟨⟨JC i (j+1) S.length (nth W i).length (nth W i),fT W S T2 G⟩,?_,T2,tl2,acc.trans (acc2.num (by omega) (by omega) ws2),by omega,fun q hq x hx hxe=>?_,rfl⟩
           · rw[cl]
             have ho4:=u9 W S T2 G
             have tk4:(fT W S T2 G).take (3+rk G G.length)=fT W S T2 G:=List.take_of_length_le (by have:=lE W S T2 G;omega)
             generalize fT W S T2 G=K4 at*
             generalize fT W S (T'.set n true) G=K2 at*
             generalize fT W S T' G=K1 at*
             generalize 3+rk G G.length=kL at*
             generalize bls (T'.set n true)=Bs2 at*
             generalize bls T'=Bs at*
             clear ih ws acc acc2 ws2
             by_cases hne:nth G n=[]
             · have gD:EH G n= .nil:=if_pos hne
               rw[hne]at hf hq
               have hz:¬((0:Int)<nth S n):=hf
               rw[gD]at eg hq
               rw[List.length_nil,Int.natCast_zero]at hq
               simp(disch:=omega)only[go_sem,K.aF,↓reduceIte,wg,li,k0,k1,tg,ho,tk,b0,b1,sg,st1,k4,k5,eg,sg2,hz,bl2,hq,e3,ho4,tk4,reduceAdd,reduceSub]
               rfl
             · have gD:EH G n= .ref (3+rk G n) 0 (nth G n).length:=if_neg hne
               rw[gD]at eg hq
               simp(disch:=omega)only[go_sem,K.aF,↓reduceIte,wg,li,k0,k1,tg,ho,tk,b0,b1,sg,st1,k4,k5,eg,sg2,lf2,bl2,hq,e3,ho4,tk4,reduceAdd,reduceSub]
               rfl
           · by_cases e:q=j
             · subst e
               have:x=n:=by omega
               subst this;exact acc2.sub _ (CR (by omega))
             · exact acc2.sub _ (EI (by omega) (ws q (by omega) x hx hxe))
         · right
           have fin:exS aG K.aF ⟨JC i j S.length (nth W i).length (nth W i),fT W S T' G⟩=some (.ret,⟨vs,jv W S T2 G2 (fK G) (aT G G2 G.length++x)⟩):=by
            generalize jv W S T2 G2 (fK G) (aT G G2 G.length++x)=K4 at*
            generalize fT W S (T'.set n true) G=K2 at*
            generalize fT W S T' G=K1 at*
            generalize 3+rk G G.length=kL at*
            generalize bls (T'.set n true)=Bs2 at*
            generalize bls T'=Bs at*
            clear ih ws acc po nx
            by_cases hne:nth G n=[]
            · have gD:EH G n= .nil:=if_pos hne
              rw[hne]at hf hq
              have hz:¬((0:Int)<nth S n):=hf
              rw[gD]at eg hq
              rw[List.length_nil,Int.natCast_zero]at hq
              simp(disch:=omega)only[go_sem,K.aF,↓reduceIte,wg,li,k0,k1,tg,ho,tk,b0,b1,sg,st1,k4,k5,eg,sg2,hz,bl2,hq,e3,reduceAdd,reduceSub]
            · have gD:EH G n= .ref (3+rk G n) 0 (nth G n).length:=if_neg hne
              rw[gD]at eg hq
              simp(disch:=omega)only[go_sem,K.aF,↓reduceIte,wg,li,k0,k1,tg,ho,tk,b0,b1,sg,st1,k4,k5,eg,sg2,lf2,bl2,hq,e3,reduceAdd,reduceSub]
           exact⟨_,fin,by simp,.inr ⟨T2,G2,x,vs,rfl,v3,tl2,nx,po.mono acc.sub⟩⟩
   · rw[decide_eq_false cin]at li
     left
     refine⟨⟨JC i (j+1) S.length (nth W i).length (nth W i),fT W S T' G⟩,?_,T',tl',acc,lf,fun q hq x hx hxe=>?_,rfl⟩
     · have ho:=u9 W S T' G
       have tk:(fT W S T' G).take (3+rk G G.length)=fT W S T' G:=List.take_of_length_le (by omega)
       have k0:(fT W S T' G)[0]?=some (.box [.t (.sl (W.map tL)),.t (tL S),.ref 2 0 G.length]):=rfl
       rw[cl]
       generalize fT W S T' G=K1 at*
       have k3:3≤3+rk G G.length:=by omega
       generalize 3+rk G G.length=kL at*
       have b0:ltB 0 kL=true:=by rw[gM];simp;omega
       have b1:ltB 1 kL=true:=by rw[gM];simp;omega
       clear ih ws acc
       simp(disch:=omega)only[go_sem,K.aF,↓reduceIte,wg,li,k0,ho,tk,b0,b1,reduceAdd,reduceSub]
       rfl
     · by_cases e:q=j
       · subst e;exact absurd ⟨by omega,by omega⟩ cin
       · exact ws q (by omega) x hx hxe
 · rintro st ⟨T',tl',acc,lf,ws,rfl⟩
   refine⟨(.exit 0,⟨JC i (nth W i).length S.length (nth W i).length (nth W i),fT W S T' G⟩),?_,by simp,.inl ⟨T',rfl,tl',⟨acc.sub,acc.clo,fun x hx hw=>?_⟩,lf⟩⟩
   · generalize fT W S T' G=K1
     simp(disch:=omega)only[go_sem,K.aF,↓reduceIte,reduceAdd,reduceSub]
   · rw[Int.toNat_natCast]at hw
     obtain⟨q,hq⟩:=aLf.1 hw
     have ql:=(aLe.1 hq).1
     exact ws q ql x hx (by have:=mb ql;rw[hq]at this;exact(Option.some.inj this))
theorem M1{W:List (List Int)}{S:List Int}{G:List (List Int)}(hW:W.length≤1000)(hS:S.length≤1000)(hG:GI W S G)(hc:∀n,(nth G n).length≤1000000)(hwl:∀i,(nth W i).length≤1000000):∀(k:Nat) (T:List Bool),left T≤k→T.length=S.length→∀i:Nat,i<W.length→
 ∃r,aG 0 N.az [.bp 0 0,I i,.ref 1 0 S.length] (fT W S T G)=some (B r.1,r.2)∧MZ W S G i T r:=by
 intro k
 induction k using Nat.strongRecOn with
 | ind k IH=>
   intro T hk tl i hi
   obtain⟨q,hq,hc2⟩:=aav hW hS hG hc hwl hi tl (fun T2 h2 h3 o ho=>IH (left T2) (by omega) T2 (aLs _) h2 o ho) (B false) .und .und .und .und .und .und
   have k0:(fT W S T G)[0]?=some (.box [.t (.sl (W.map tL)),.t (tL S),.ref 2 0 G.length]):=rfl
   have wg:(W.map tL)[i]?=some (tL (nth W i)):=by
    unfold nth
    rw[aLn,aLc hi,aLl,aLc hi];rfl
   have cl:=lE W S T G
   have wb:=hwl i
   rcases hc2 with⟨T2,rfl,tl2,pn,lf⟩ | ⟨T2,G2,x,vs,rfl,v3,tl2,nx,po⟩
   · refine⟨(false,fT W S T2 G),ay K.eU rfl ?_,.inr ⟨T2,rfl,pn,by omega,lf⟩⟩
     have fn:=aat (W:=W) (S:=S) (T:=T2) (G:=G)
     rw[cl]
     generalize fT W S T2 G=K2 at*
     generalize fT W S T G=K1 at*
     generalize 3+rk G G.length=kL at*
     clear IH
     simp(disch:=omega)only[go_sem,K.az,↓reduceIte,k0,wg,hq,fn,reduceAdd,reduceSub]
   · refine⟨(true,jv W S T2 G2 (fK G) (aT G G2 G.length++x)),ay K.eU rfl ?_,.inl ⟨G2,T2,x,rfl,po,nx,by omega⟩⟩
     have fn:=aau (W:=W) (S:=S) (T:=T2) (G:=G) (G2:=G2) (x:=x) (by have:=po.gi.len;have:=hG.len;omega) nx
     rw[cl]
     generalize jv W S T2 G2 (fK G) (aT G G2 G.length++x)=K2 at*
     generalize fT W S T G=K1 at*
     generalize 3+rk G G.length=kL at*
     clear IH
     simp(disch:=omega)only[go_sem,K.az,↓reduceIte,k0,wg,hq,fn,v3,reduceAdd,reduceSub]
end Go.Ev
namespace Go.Ev
open Go
def M3(s:Int):Int:=max 0 (min s 12)
def JH(S:List Int)(got:List Int)(x:Int):List Int:=if 0≤x∧x<S.length∧x∉got then got++[x]else got
def lM(S:List Int)(got:List Int)(l:List Int):List Int:=l.foldl (JH S) got
def jJ(S:List Int)(got:List Int)(L:List (List Int)):List Int:=L.foldl (lM S) got
def fo(S:List Int)(got:List Int):Int:=(got.map fun x=>M3 (nth S x.toNat)).sum
def zC(S:List Int)(L:List (List Int)):Int:=(L.length:Int)-fo S (jJ S [] L)
theorem EJ{S got:List Int}{x y:Int}:y∈JH S got x↔y∈got∨(y=x∧0≤x∧x<S.length):=by
 unfold JH
 split
 · rename_i h
   rw[List.mem_append,List.mem_singleton]
   constructor
   · rintro (a | a)
     · exact .inl a
     · exact .inr ⟨a,h.1,h.2.1⟩
   · rintro (a | a)
     · exact .inl a
     · exact .inr a.1
 · rename_i h
   constructor
   · exact .inl
   · rintro (a | ⟨rfl,a,b⟩)
     · exact a
     · exact Classical.byContradiction fun n=>h ⟨a,b,n⟩
theorem JI{S got:List Int}{x:Int}(h:got.Nodup):(JH S got x).Nodup:=by
 unfold JH
 split
 · rename_i k
   rw[List.nodup_append]
   exact⟨h,by simp,fun a ha b hb e=>by rw[List.mem_singleton.1 hb]at e;subst e;exact k.2.2 ha⟩
 · exact h
theorem EK{S:List Int}{y:Int}:∀ {l got:List Int},y∈lM S got l↔y∈got∨(y∈l∧0≤y∧y<S.length)
 | [],got=>by simp[lM]
 | x::l,got=>by
   have ih:=EK (S:=S) (y:=y) (l:=l) (got:=JH S got x)
   rw[show lM S got (x::l)=lM S (JH S got x) l from rfl,ih,EJ,List.mem_cons]
   constructor
   · rintro ((a | ⟨rfl,a,b⟩) | ⟨a,b⟩)
     · exact .inl a
     · exact .inr ⟨.inl rfl,a,b⟩
     · exact .inr ⟨.inr a,b⟩
   · rintro (a | ⟨rfl | a,b⟩)
     · exact .inl (.inl a)
     · exact .inl (.inr ⟨rfl,b⟩)
     · exact .inr ⟨a,b⟩
theorem JJ{S:List Int}:∀ {l got:List Int},got.Nodup→(lM S got l).Nodup
 | [],got,h=>h
 | x::l,got,h=>JJ (l:=l) (JI h)
theorem y7{S:List Int}{y:Int}:∀ {L:List (List Int)} {got:List Int},y∈jJ S got L↔y∈got∨((∃l∈L,y∈l)∧0≤y∧y<S.length)
 | [],got=>by simp[jJ]
 | x::l,got=>by
   have ih:=y7 (S:=S) (y:=y) (L:=l) (got:=lM S got x)
   rw[show jJ S got (x::l)=jJ S (lM S got x) l from rfl,ih,EK]
   constructor
   · rintro ((a | ⟨a,b⟩) | ⟨⟨l2,a,b⟩,c⟩)
     · exact .inl a
     · exact .inr ⟨⟨x,List.mem_cons_self,a⟩,b⟩
     · exact .inr ⟨⟨l2,List.mem_cons_of_mem _ a,b⟩,c⟩
   · rintro (a | ⟨⟨l2,a,b⟩,c⟩)
     · exact .inl (.inl a)
     · rcases List.mem_cons.1 a with rfl | a
       · exact .inl (.inr ⟨b,c⟩)
       · exact .inr ⟨⟨l2,a,b⟩,c⟩
theorem JK{S:List Int}:∀ {L:List (List Int)} {got:List Int},got.Nodup→(jJ S got L).Nodup
 | [],got,h=>h
 | x::l,got,h=>JK (L:=l) (JJ h)
theorem CS{α:Type}{f g:α→Int}:∀ {l:List α},(∀x∈l,f x≤g x)→(l.map f).sum≤(l.map g).sum
 | [],_=>Int.le_refl _
 | x::l,h=>by
   have:=CS (l:=l) fun y hy=>h y (List.mem_cons_of_mem _ hy)
   have:=h x List.mem_cons_self
   simp only[List.map_cons,List.sum_cons];omega
theorem qw{α β:Type}(f:α→List β):∀l:List α,((l.flatMap f).length:Int)=(l.map fun x=>((f x).length:Int)).sum
 | []=>rfl
 | x::l=>by
   simp only[List.flatMap_cons,aLv,List.map_cons,List.sum_cons,←qw f l];omega
theorem y8{G:List (List Int)}{n:Nat}(h:¬n<G.length):nth G n=[]:=by
 unfold nth
 rw[aLl,aLm (by omega)];rfl
theorem RN.Pj{W:List (List Int)}{S:List Int}{G:List (List Int)}(h:RN W S G)(n:Nat):(nth G n).length≤W.length:=by
 by_cases l:n<G.length
 · have gl:=h.len
   have nd:(nth G n).Nodup:=by
    have e:G=G.take n++nth G n::G.drop (n+1):=by
     have:nth G n=G[n]:=by unfold nth;rw[aLl,aLc l];rfl
     rw[this,←List.drop_eq_getElem_cons l,List.take_append_drop]
    have:=h.nd
    rw[n9,e]at this
    simp only[List.flatten_append,List.flatten_cons]at this
    exact(List.nodup_append.1 (List.nodup_append.1 this).2.1).1
   have key:=dI (b:=(List.range W.length).map fun(i:Nat)=>(i:Int)) nd fun x hx=>by
    obtain⟨a,b, -⟩:=h.wnt n (by omega) x hx
    exact List.mem_map.2 ⟨x.toNat,aLu.2 (by omega),by omega⟩
   simpa using key
 · rw[y8 l];exact Nat.zero_le _
abbrev bO(W:List (List Int))(X:List Nat):List (List Int):=X.map fun i=>nth W i
theorem EL{X:List Nat}(h:X.Nodup):(X.map fun(i:Nat)=>(i:Int)).Nodup:=by
 rw[List.Nodup,List.pairwise_map]
 exact h.imp fun{a b} k e=>k (by omega)
theorem TH{W:List (List Int)}{S:List Int}{G:List (List Int)}(h:RN W S G)(hW:W.length≤12){X:List Nat}(nd:X.Nodup)(hX:∀i∈X,i<W.length):(((rH G).length:Nat):Int)+zC S (bO W X)≤W.length:=by
 classical
 have gl:=h.len
 have hg:∀y,y∈jJ S [] (bO W X)↔((∃l∈bO W X,y∈l)∧0≤y∧y<S.length):=fun y=>by rw[y7];simp
 have e:(zC S (bO W X))=(X.length:Int)-fo S (jJ S [] (bO W X)):=by unfold zC bO;rw[List.length_map]
 rw[e]
 generalize jJ S [] (bO W X)=got at*
 have sp:=rG (fun n=>(n:Int)∈got) G G.length
 have ndU:=(h.nd.sublist (by unfold rH;exact D9 (fun n=>(n:Int)∈got) G G.length))
 have ndN:=(h.nd.sublist (by unfold rH;exact D9 (fun n=>¬(n:Int)∈got) G G.length))
 have a1:((LU (fun n=>(n:Int)∈got) G G.length).length:Int)≤fo S got:=by
  have k1:=dI (b:=got.flatMap fun x=>nth G x.toNat) ndU fun i hi=>by
   obtain⟨n,hn,hu,hm⟩:=pU.1 hi
   exact List.mem_flatMap.2 ⟨_,hu,by rw[Int.toNat_natCast];exact hm⟩
  have k2:=qw (fun x:Int=>nth G x.toNat) got
  have k3:(got.map fun x=>((nth G x.toNat).length:Int)).sum≤fo S got:=CS fun x hx=>by
   obtain⟨-,x0,x1⟩:=(hg x).1 hx
   unfold M3
   by_cases en:nth G x.toNat=[]
   · rw[en];simp only[List.length_nil];omega
   · have:=h.cap _ (by omega) en
     have:=h.Pj x.toNat
     omega
  omega
 have a2:(LU (fun n=>¬(n:Int)∈got) G G.length).length+X.length≤W.length:=by
  have k1:=dI (a:=LU (fun n=>¬(n:Int)∈got) G G.length++X.map fun(i:Nat)=>(i:Int)) (b:=(List.range W.length).map fun(i:Nat)=>(i:Int)) (by
   rw[List.nodup_append]
   refine⟨ndN,EL nd,fun a ha b hb e=>?_⟩
   subst e
   obtain⟨n,hn,hu,hm⟩:=pU.1 ha
   obtain⟨i,hi,rfl⟩:=List.mem_map.1 hb
   obtain⟨w1,w2,w3⟩:=h.wnt n (by omega) _ hm
   rw[Int.toNat_natCast]at w3
   exact hu ((hg _).2 ⟨⟨_,List.mem_map.2 ⟨i,hi,rfl⟩,w3⟩,by omega,by omega⟩)) (fun x hx=>by
   rcases List.mem_append.1 hx with k | k
   · obtain⟨n,hn,hu,hm⟩:=pU.1 k
     obtain⟨w1,w2,w3⟩:=h.wnt n (by omega) _ hm
     exact List.mem_map.2 ⟨x.toNat,aLu.2 (by omega),by omega⟩
   · obtain⟨i,hi,rfl⟩:=List.mem_map.1 k
     exact List.mem_map.2 ⟨i,aLu.2 (hX i hi),rfl⟩)
  simpa using k1
 unfold rH
 omega
open Classical in
theorem MI.BM{W:List (List Int)}{S:List Int}{G:List (List Int)}{c:Nat}{U:Nat→Prop}(h:MI W S G W.length c U)(hW:W.length≤12):(W.length:Int)≤c+zC S (bO W ((List.range W.length).filter fun i=>yN W S i U)):=by
 have gl:=h.st.len
 generalize hX:(List.range W.length).filter (fun i:Nat=>decide (yN W S i U))=X
 have mX:∀i,i∈X↔(i<W.length∧yN W S i U):=fun i=>by subst hX;rw[List.mem_filter,aLu,decide_eq_true_iff]
 have hg:∀y,y∈jJ S [] (bO W X)↔((∃l∈bO W X,y∈l)∧0≤y∧y<S.length):=fun y=>by rw[y7];simp
 have ng:(jJ S [] (bO W X)).Nodup:=JK (by simp)
 have e:(zC S (bO W X))=(X.length:Int)-fo S (jJ S [] (bO W X)):=by unfold zC bO;rw[List.length_map]
 rw[e]
 generalize jJ S [] (bO W X)=got at*
 have gU:∀x∈got,0≤x∧x.toNat<S.length∧U x.toNat:=fun x hx=>by
  obtain⟨⟨l,hl,hm⟩,x0,x1⟩:=(hg x).1 hx
  obtain⟨i,hi,rfl⟩:=List.mem_map.1 hl
  exact⟨x0,by omega,((mX i).1 hi).2 x.toNat (by omega) (by rw[Int.toNat_of_nonneg x0,Int.toNat_natCast];exact hm)⟩
 have sp:=rG U G G.length
 have a1:fo S got≤((LU U G G.length).length:Int):=by
  have k1:=dI (a:=got.flatMap fun x=>nth G x.toNat) (b:=LU U G G.length) (by
   rw[List.Nodup,List.pairwise_flatMap]
   have pf:=h.st.nd
   rw[n9,List.Nodup,List.pairwise_flatten]at pf
   refine⟨fun x hx=>?_,ng.imp_of_mem fun{x y} hx hy hne a ha b hb e=>?_⟩
   · exact pf.1 _ (by
      have l:x.toNat<G.length:=by have:=(gU x hx).2.1;omega
      unfold nth
      rw[aLl,aLc l]
      exact List.getElem_mem l)
   · subst e
     obtain⟨x0,xl, -⟩:=gU x hx
     obtain⟨y0,yl, -⟩:=gU y hy
     have ga:∀n,n<G.length→G[n]?=some (nth G n):=fun n l=>by
      unfold nth
      rw[aLl,aLc l];rfl
     have pp:=List.pairwise_iff_getElem.1 pf.2
     have gx:=ga x.toNat (by omega)
     have gy:=ga y.toNat (by omega)
     rw[aLc (by omega),Option.some_inj]at gx gy
     rcases Nat.lt_trichotomy x.toNat y.toNat with k | k | k
     · exact pp x.toNat y.toNat (by omega) (by omega) k a (by rw[gx];exact ha) a (by rw[gy];exact hb) rfl
     · exact hne (by omega)
     · exact pp y.toNat x.toNat (by omega) (by omega) k a (by rw[gy];exact hb) a (by rw[gx];exact ha) rfl) fun i hi=>by
   obtain⟨x,hx,hm⟩:=List.mem_flatMap.1 hi
   obtain⟨x0,xl,xu⟩:=gU x hx
   exact pU.2 ⟨_,by omega,xu,hm⟩
  have k2:=qw (fun x:Int=>nth G x.toNat) got
  have k3:fo S got≤(got.map fun x=>((nth G x.toNat).length:Int)).sum:=CS fun x hx=>by
   obtain⟨x0,xl,xu⟩:=gU x hx
   have:=(h.clo _ xl xu).1
   unfold M3
   omega
  omega
 have a2:W.length≤(LU (fun n=>¬U n) G G.length).length+X.length:=by
  have k1:=dI (a:=(List.range W.length).map fun(i:Nat)=>(i:Int)) (b:=LU (fun n=>¬U n) G G.length++X.map fun(i:Nat)=>(i:Int)) (EL List.nodup_range) fun x hx=>by
   obtain⟨i,hi,rfl⟩:=List.mem_map.1 hx
   have hi:=aLu.1 hi
   have inX:yN W S i U→(i:Int)∈LU (fun n=>¬U n) G G.length++X.map fun(i:Nat)=>(i:Int):=fun k=>
    List.mem_append.2 (.inr (List.mem_map.2 ⟨i,(mX i).2 ⟨hi,k⟩,rfl⟩))
   rcases h.out i hi with k | k
   · obtain⟨n,hn, -,hm⟩:=pU.1 k
     by_cases u:U n
     · exact inX ((h.clo n (by omega) u).2 _ hm)
     · exact List.mem_append.2 (.inl (pU.2 ⟨n,hn,u,hm⟩))
   · exact inX k
  simpa using k1
 have hc:=h.cnt
 unfold rH at hc
 omega
def zD(s i:Nat):Bool:=decide (s / 2 ^ i % 2=1)
def aR(n s:Nat):List Nat:=(List.range n).filter (zD s)
def kz(W:List (List Int))(S:List Int):Nat→Int
 | 0=>0
 | j+1=>max (kz W S j) (zC S (bO W (aR W.length (j+1))))
def kB(W:List (List Int))(S:List Int):Int:=(W.length:Int)-kz W S (2 ^ W.length-1)
theorem rT(W:List (List Int))(S:List Int):∀j,0≤kz W S j
 | 0=>Int.le_refl _
 | j+1=>by have:=rT W S j;rw[kz];omega
theorem EM(W:List (List Int))(S:List Int){s:Nat}(h0:0<s):∀ {j},s≤j→zC S (bO W (aR W.length s))≤kz W S j
 | 0,h=>by omega
 | j+1,h=>by
   rw[kz]
   by_cases e:s=j+1
   · subst e;omega
   · have:=EM W S h0 (j:=j) (by omega);omega
theorem y9{W:List (List Int)}{S:List Int}{b:Int}(hb:0≤b)(h:∀s,zC S (bO W (aR W.length s))≤b):∀j,kz W S j≤b
 | 0=>hb
 | j+1=>by have:=y9 hb h j;have:=h (j+1);rw[kz];omega
theorem JL(p:Nat→Bool):∀n,∃s,s<2 ^ n∧∀i,i<n→zD s i=p i
 | 0=>⟨0,by simp,fun i h=>by omega⟩
 | n+1=>by
   obtain⟨s,a,b⟩:=JL p n
   have pw:2 ^ (n+1)=2 ^ n*2:=Nat.pow_succ ..
   have lowb:∀i,i<n→zD (s+2 ^ n) i=zD s i:=fun i hi=>by
    obtain⟨k,hk⟩:∃k,n=i+1+k:=⟨n-(i+1),by omega⟩
    unfold zD
    have e:2 ^ n=2 ^ i*(2*2 ^ k):=by rw[hk,Nat.pow_add,Nat.pow_succ,Nat.mul_assoc]
    rw[e,Nat.add_mul_div_left _ _ (Nat.two_pow_pos i),Nat.add_mod,Nat.mul_mod_right]
    simp
   cases hp:p n with
   | false=>
     refine⟨s,by omega,fun i hi=>?_⟩
     by_cases e:i=n
     · subst e
       rw[hp]
       unfold zD
       rw[Nat.div_eq_of_lt a];rfl
     · exact b i (by omega)
   | true=>
     refine⟨s+2 ^ n,by omega,fun i hi=>?_⟩
     by_cases e:i=n
     · subst e
       rw[hp]
       unfold zD
       rw[Nat.add_div_right _ (Nat.two_pow_pos _),Nat.div_eq_of_lt a];rfl
     · rw[lowb i (by omega)];exact b i (by omega)
theorem M4(n s:Nat):(aR n s).Nodup:=List.nodup_range.filter _
theorem EN{n s i:Nat}(h:i∈aR n s):i<n:=aLu.1 (List.mem_filter.1 h).1
theorem wD(p:Nat→Bool)(n:Nat):∃s,s<2 ^ n∧(List.range n).filter p=aR n s:=by
 obtain⟨s,a,b⟩:=JL p n
 exact⟨s,a,List.filter_congr fun i hi=>(b i (aLu.1 hi)).symm⟩
theorem tv(n:Nat):aR n 0=[]:=by
 unfold aR
 rw[List.filter_eq_nil_iff]
 intro i _
 simp[zD]
theorem MI.kB{W:List (List Int)}{S:List Int}{G:List (List Int)}{c:Nat}{U:Nat→Prop}(h:MI W S G W.length c U)(hW:W.length≤12):(c:Int)=kB W S:=by
 classical
 have l1:=h.BM hW
 obtain⟨s,s1,s2⟩:=wD (fun i=>decide (yN W S i U)) W.length
 have up:∀s,zC S (bO W (aR W.length s))≤W.length-c:=fun s=>by
  have:=TH h.st hW (M4 W.length s) fun i hi=>EN hi
  rw[h.cnt]at this;omega
 have hc:(c:Int)≤W.length:=by
  have:=up 0
  rw[tv]at this
  simp only[zC,bO,List.map_nil,List.length_nil,jJ,List.foldl_nil,fo,List.sum_nil]at this
  omega
 have e:((List.range W.length).filter fun i:Nat=>@decide (yN W S i U) (Classical.propDecidable _))=aR W.length s:=by
  rw[← s2]
 unfold Ev.kB
 have lo:=y9 (by omega) up (2 ^ W.length-1)
 have l2:(W.length:Int)≤c+zC S (bO W (aR W.length s)):=by rw[← e];exact l1
 by_cases z:s=0
 · subst z
   have nn:=rT W S (2 ^ W.length-1)
   rw[tv]at l2
   simp only[zC,bO,List.map_nil,List.length_nil,jJ,List.foldl_nil,fo,List.sum_nil]at l2
   omega
 · have:=EM W S (s:=s) (by omega) (j:=2 ^ W.length-1) (by omega)
   omega
end Go.Ev
namespace Go.Ev
open Go
variable [Lib] [aZ] [bc] [cG] [cJ] [eC] [cL] [cM] [dG] [dE] [bI] [bM] [cA] [cB] [gY] [dR]
theorem Pk{α:Type}:∀ {sel:List Nat} {l os:List α},(aO l sel os).length=l.length
 | [],l,os=>by simp[aO]
 | a::sel,l,[]=>by simp[aO]
 | a::sel,l,o::os=>by rw[aO,Pk];simp
theorem Pl{α:Type}:∀ {sel:List Nat} {l os:List α} {i:Nat},i∉sel→(aO l sel os)[i]?=l[i]?
 | [],l,os,i,_=>by simp[aO]
 | a::sel,l,[],i,_=>by simp[aO]
 | a::sel,l,o::os,i,h=>by
   simp only[List.mem_cons,not_or]at h
   rw[aO,Pl h.2,aLi (fun e=>h.1 e.symm)]
theorem aaw{α:Type}:∀ {sel:List Nat} {l os:List α} {i j:Nat},sel.Nodup→os.length=sel.length→sel[j]?=some i→i<l.length→(aO l sel os)[i]?=os[j]?
 | [],l,os,i,j,_,_,h,_=>by simp at h
 | a::sel,l,[],i,j,_,hl,_,_=>by simp at hl
 | a::sel,l,o::os,i,j,hn,hl,hj,hi=>by
   simp only[List.nodup_cons]at hn
   rw[aO]
   cases j with
   | zero=>
     simp at hj;subst hj
     rw[Pl hn.1,aLj hi];rfl
   | succ j=>
     simp at hj hl
     rw[aaw hn.2 hl hj (by simpa using hi)];rfl
structure TI(K:ae)(b g:Nat)(f:Nat→Nat)(W:List (List Int))(S:List Int)(G:List (List Int)):Prop where
 hb:K[b]?=some (.box [.t (.sl (W.map tL)),.t (tL S),.ref g 0 G.length])
 hg:K[g]?=some (.arr 1 false 0 (esT G f G.length))
 hf:∀n,n<G.length→nth G n≠[]→K[f n]?=some (arA (nth G n))
 bg:b≠g
 inj:∀n m,n<G.length→m<G.length→nth G n≠[]→nth G m≠[]→f n=f m→n=m
 fb:∀n,n<G.length→nth G n≠[]→f n≠b∧f n≠g
theorem CT{α:Type}{K:List α}{i:Nat}{o:α}(h:K[i]?=some o):i<K.length:=(aLe.1 h).1
theorem Pm{G:List (List Int)}{f:Nat→Nat}:∀m,(∀n k,n<m→k<m→nth G n≠[]→nth G k≠[]→f n=f k→n=k)→(idT G f m).Nodup
 | 0,_=>by simp[idT]
 | m+1,h=>by
   rw[idT]
   refine List.nodup_append.2 ⟨Pm m fun n k hn hk=>h n k (by omega) (by omega),by split<;>simp,fun a ha c hc=>?_⟩
   split at hc
   · simp at hc
   · rename_i hm
     rw[List.mem_singleton.1 hc]
     obtain⟨n,hn,hne,rfl⟩:=tu.1 ha
     intro e
     have:=h n m (by omega) (by omega) hne hm e
     omega
theorem CU{K:ae}{i:Nat}{o:Obj}(h:K[i]?=some o)(x:ae):(K++x)[i]?=some o:=by
 rw[aLg (CT h)];exact h
theorem aax{l:List Nat}(h:l.Nodup){i j a:Nat}(hi:l[i]?=some a)(hj:l[j]?=some a):i=j:=by
 have li:=CT hi
 have lj:=CT hj
 rw[aLc li]at hi
 rw[aLc lj]at hj
 have e:=Option.some.inj (hi.trans hj.symm)
 rcases Nat.lt_trichotomy i j with k | k | k
 · exact absurd e (List.pairwise_iff_getElem.1 h i j li lj k)
 · exact k
 · exact absurd e.symm (List.pairwise_iff_getElem.1 h j i lj li k)
theorem TI.rep{K:ae}{b g:Nat}{f:Nat→Nat}{W:List (List Int)}{S:List Int}{G:List (List Int)}(h:TI K b g f W S G)(T:List Bool):BL (K++[.arr 1 false 0 (bls T)]) b K.length g f W S T G where
 hb:=CU h.hb _
 hq:=by rw[aLh (aLs _),Nat.sub_self];rfl
 hg:=CU h.hg _
 hf n hn hne:=CU (h.hf n hn hne) _
 nd:=by
  have lb:=CT h.hb
  have lg:=CT h.hg
  have bg:=h.bg
  have nf:∀x,(∀n,n<G.length→nth G n≠[]→f n≠x)→x∉idT G f G.length:=fun x hx hm=>by
   obtain⟨n,a,c,e⟩:=tu.1 hm
   exact hx n a c e.symm
  have n1:=nf b fun n hn hne=>(h.fb n hn hne).1
  have n2:=nf g fun n hn hne=>(h.fb n hn hne).2
  have n3:=nf K.length fun n hn hne e=>by
   have:=CT (h.hf n hn hne)
   omega
  have nd:=Pm G.length h.inj
  simp only[List.cons_append,List.nil_append,List.nodup_cons,List.mem_cons,not_or]
  exact⟨⟨by omega,bg,n1⟩,⟨by omega,n3⟩,n2,nd⟩
def f2K(K:ae)(G:List (List Int))(f:Nat→Nat)(n:Nat):Nat:=if nth G n=[]then K.length else f n
theorem JM(b q g:Nat)(G:List (List Int))(f:Nat→Nat):([b,q,g]++idT G f G.length).length=3+rk G G.length:=by
 rw[aLv,tj];rfl
theorem AZ{K:ae}{b q g:Nat}{f:Nat→Nat}{W:List (List Int)}{S:List Int}{T T2:List Bool}{G G2:List (List Int)}{x:ae}(h:BL K b q g f W S T G)(gl:G2.length=G.length)(hx:EF G G2 x)(r:Bool):
 jV K K ([b,q,g]++idT G f G.length) (B r,jv W S T2 G2 (fK G) (aT G G2 G.length++x))=some (B r,aO K ([b,q,g]++idT G f G.length) ([.box [.t (.sl (W.map tL)),.t (tL S),.ref g 0 G2.length],.arr 1 false 0 (bls T2),.arr 1 false 0 (esT G2 (f2K K G f) G2.length)]++aT G G2 G.length)++x):=by
 have sl:=JM b q g G f
 generalize hsel:[b,q,g]++idT G f G.length=sel at*
 have bk:∀i,i<3+rk G G.length→bN sel K.length i=sel[i]?:=fun i hi=>by unfold bN;rw[if_pos (by omega)]
 have bn:bN sel K.length (3+rk G G.length)=some K.length:=by unfold bN;rw[if_neg (by omega),sl];simp
 have s2:bN sel K.length 2=some g:=by rw[bk 2 (by omega),←hsel];rfl
 have e:jV K K sel (B r,jv W S T2 G2 (fK G) (aT G G2 G.length++x))=(ren (bN sel K.length) depth (B r)).bind fun r'=>(aW (b5 (bN sel K.length)) (jv W S T2 G2 (fK G) (aT G G2 G.length++x))).map fun os=>(r',aO K sel (os.take sel.length)++os.drop sel.length):=by
  unfold jV
  have:sel.isEmpty=false:=by
   rw[← hsel];rfl
  simp only[this,Bool.false_and,aLt,if_false]
  rfl
 have fk:∀n,n<G.length→nth G2 n≠[]→bN sel K.length (fK G n)=some (f2K K G f n):=fun n hn hne=>by
  unfold fK f2K
  by_cases c:nth G n=[]
  · rw[if_pos c,if_pos c];exact bn
  · rw[if_neg c,if_neg c]
    have:=wB G (n:=n) (m:=G.length) hn c
    rw[bk _ (by omega),←hsel]
    exact h.CN hn c
 have e1:aW (ren (bN sel K.length) 8) (esT G2 (fK G) G2.length)=some (esT G2 (f2K K G f) G2.length):=wC (u:=bN sel K.length) (f2:=f2K K G f) G2.length (fun n hn hne=>fk n (by omega) hne)
 have e2:aW (ren (bN sel K.length) 8) (bls T2)=some (bls T2):=mG _ _
 have e3:aW (b5 (bN sel K.length)) (aT G G2 G.length++x)=some (aT G G2 G.length++x):=by
  refine s8 fun o ho=>?_
  obtain⟨l,rfl⟩:=EG hx o ho
  simp only[b5,ints,mG,aLw]
 have e4:aW (b5 (bN sel K.length)) (jv W S T2 G2 (fK G) (aT G G2 G.length++x))=some (.box [.t (.sl (W.map tL)),.t (tL S),.ref g 0 G2.length]:: .arr 1 false 0 (bls T2):: .arr 1 false 0 (esT G2 (f2K K G f) G2.length)::(aT G G2 G.length++x)):=by
  simp only[jv,aW,b5,ren,depth,s2,aLw,aLq]
  rw[e1,e2,e3];rfl
 rw[e,e4]
 simp only[ren,depth,aLq,aLw,sl]
 have al:=kn G G2 G.length
 have t1:∀(A B C:Obj),(A::B::C::(aT G G2 G.length++x)).take (3+rk G G.length)=[A,B,C]++aT G G2 G.length:=fun A B C=>by
  rw[show A::B::C::(aT G G2 G.length++x)=([A,B,C]++aT G G2 G.length)++x by simp]
  rw[List.take_left' (by rw[aLv,al];rfl)]
 have t2:∀(A B C:Obj),(A::B::C::(aT G G2 G.length++x)).drop (3+rk G G.length)=x:=fun A B C=>by
  rw[show A::B::C::(aT G G2 G.length++x)=([A,B,C]++aT G G2 G.length)++x by simp]
  rw[List.drop_left' (by rw[aLv,al];rfl)]
 rw[t1,t2]
theorem wE{K:ae}{b q g:Nat}{f:Nat→Nat}{W:List (List Int)}{S:List Int}{T T2:List Bool}{G G2:List (List Int)}{x:ae}(h:BL K b q g f W S T G)(gl:G2.length=G.length)(hx:EF G G2 x):
 TI (aO K ([b,q,g]++idT G f G.length) ([.box [.t (.sl (W.map tL)),.t (tL S),.ref g 0 G2.length],.arr 1 false 0 (bls T2),.arr 1 false 0 (esT G2 (f2K K G f) G2.length)]++aT G G2 G.length)++x) b g (f2K K G f) W S G2:=by
 have nd:=h.nd
 have al:=kn G G2 G.length
 have sl:=JM b q g G f
 have il:=tj G f G.length
 have pl:∀os,(aO K ([b,q,g]++idT G f G.length) os).length=K.length:=fun os=>Pk
 have nf:∀n,n<G.length→nth G n≠[]→f n≠b∧f n≠g:=fun n hn hne=>by
  have m:f n∈idT G f G.length:=tu.2 ⟨n,hn,hne,rfl⟩
  have:=(List.nodup_append.1 nd).2.2
  exact⟨fun e=>this b (by simp) (f n) m e.symm,fun e=>this g (by simp) (f n) m e.symm⟩
 have inj:∀n m,n<G.length→m<G.length→nth G n≠[]→nth G m≠[]→f n=f m→n=m:=fun n m hn hm h1 h2 e=>by
  have n2:=(List.nodup_append.1 nd).2.1
  have a:=yW G f h1 _ hn
  have c:=yW G f h2 _ hm
  rw[e]at a
  have:rk G n=rk G m:=by
   have la:=CT a
   have lc:=CT c
   exact aax n2 a c
  rcases Nat.lt_trichotomy n m with k | k | k
  · have:=wB G k h1;omega
  · exact k
  · have:=wB G k h2;omega
 have ol:∀A B C:Obj,([A,B,C]++aT G G2 G.length).length=([b,q,g]++idT G f G.length).length:=fun A B C=>by
  rw[sl,aLv,al];rfl
 have at_:∀(A B C:Obj) (j i:Nat) (o:Obj),([b,q,g]++idT G f G.length)[j]?=some i→i<K.length→([A,B,C]++aT G G2 G.length)[j]?=some o→(aO K ([b,q,g]++idT G f G.length) ([A,B,C]++aT G G2 G.length)++x)[i]?=some o:=fun A B C j i o hj hi ho=>by
  rw[aLg (by rw[pl];exact hi),aaw nd (ol A B C) hj hi];exact ho
 refine⟨at_ _ _ _ 0 b _ rfl (CT h.hb) rfl,at_ _ _ _ 2 g _ rfl (CT h.hg) rfl,fun n hn hne=>?_,?_,fun n m hn hm h1 h2 e=>?_,fun n hn hne=>?_⟩
 · unfold f2K
   by_cases c:nth G n=[]
   · rw[if_pos c,aLh (by rw[pl];exact aLs _),pl,Nat.sub_self]
     rcases hx.new with⟨_,e⟩ | ⟨n0,_,_,_,e,k⟩
     · exact absurd (e n c) hne
     · by_cases d:n=n0
       · subst d;rw[e];rfl
       · exact absurd (k n d c) hne
   · rw[if_neg c]
     refine at_ _ _ _ (3+rk G n) (f n) _ (h.CN (by omega) c) (CT (h.hf n (by omega) c)) ?_
     rw[aLh (by simp),show 3+rk G n-[_,_,_].length=rk G n by simp]
     exact EC G G2 c _ (by omega)
 · intro e
   have:([b,q,g]:List Nat).Nodup:=(List.nodup_append.1 nd).1
   simp at this
   omega
 · unfold f2K at e
   have one:∀n,n<G2.length→nth G2 n≠[]→nth G n=[]→∀m,m<G2.length→nth G2 m≠[]→nth G m=[]→n=m:=fun n hn hne hne2 m hm hme hme2=>by
    rcases hx.new with⟨_,e⟩ | ⟨n0,_,_,_,e,k⟩
    · exact absurd (e n hne2) hne
    · have a:n=n0:=Classical.byContradiction fun d=>hne (k n d hne2)
      have c:m=n0:=Classical.byContradiction fun d=>hme (k m d hme2)
      omega
   by_cases c:nth G n=[]<;>by_cases d:nth G m=[]
   · exact one n hn h1 c m hm h2 d
   · rw[if_pos c,if_neg d]at e
     have:=CT (h.hf m (by omega) d);omega
   · rw[if_neg c,if_pos d]at e
     have:=CT (h.hf n (by omega) c);omega
   · rw[if_neg c,if_neg d]at e
     exact inj n m (by omega) (by omega) c d e
 · unfold f2K
   by_cases c:nth G n=[]
   · rw[if_pos c]
     have:=CT h.hb
     have:=CT h.hg
     omega
   · rw[if_neg c];exact nf n (by omega) c
theorem EF.refl(G:List (List Int)):EF G G []:=⟨fun _ h=>h,.inl ⟨rfl,fun _ h=>h⟩⟩
theorem M5(n:Nat):left (List.replicate n false)=n:=by simp[left]
theorem JN{K:ae}{b g:Nat}{f:Nat→Nat}{W:List (List Int)}{S:List Int}{G:List (List Int)}(h:TI K b g f W S G)(hW:W.length≤1000)(hS:S.length≤1000)(hwl:∀i,(nth W i).length≤1000000){i c:Nat}(hi:i<W.length){U:Nat→Prop}(mi:MI W S G i c U):
 ∃r K2 f2 G2 U2,Ax (K++[.arr 1 false 0 (bls (List.replicate S.length false))]) aG N.az 0 [2] [.bp b 0,I i,.ref K.length 0 S.length]=some (B r,K2)∧TI K2 b g f2 W S G2∧MI W S G2 (i+1) (if r then c+1 else c) U2:=by
 have hG:=mi.st.toGI
 have hc:∀n,(nth G n).length≤1000000:=fun n=>by have:=mi.st.Pj n;omega
 have rt:=h.rep (List.replicate S.length false)
 obtain⟨r,hr,dn⟩:=M1 hW hS hG hc hwl S.length (List.replicate S.length false) (by rw[M5];exact aLs _) (by simp) i hi
 have t0:∀n,Tb (List.replicate S.length false) n=false:=fun n=>by
  show nth _ _=_
  unfold nth
  rw[aLl,List.getElem?_replicate]
  split<;>rfl
 rcases dn with⟨G2,T2,x,rfl,po,nx,_⟩ | ⟨T2,rfl,pn,_,_⟩
 · refine⟨true,_,_,G2,U,?_,wE (T2:=T2) rt (by rw[po.gi.len,hG.len]) nx,mi.ok po⟩
   rw[rt.call i S.length,hr,aLq]
   exact AZ (T2:=T2) rt (by rw[po.gi.len,hG.len]) nx true
 · refine⟨false,_,_,G,fun n=>U n∨Tb T2 n=true,?_,wE (T2:=T2) rt rfl (EF.refl G),mi.no t0 pn⟩
   rw[rt.call i S.length,hr,aLq]
   have:=AZ (T2:=T2) rt rfl (EF.refl G) false
   rw[← this]
   have e1:esT G (fun n=>3+rk G n) G.length=esT G (fK G) G.length:=rS _ fun n hn=>⟨Iff.rfl,fun hne=>⟨by unfold fK;rw[if_neg hne],rfl⟩⟩
   simp only[fT,jv,e1,List.append_nil]
theorem ve(n m:Nat):nth (List.replicate n ([]:List Int)) m=[]:=by
 unfold nth
 rw[aLl,List.getElem?_replicate]
 split<;>rfl
theorem EO(n:Nat)(f:Nat→Nat):∀m,esT (List.replicate n []) f m=List.replicate m .nil
 | 0=>rfl
 | m+1=>by
   rw[esT,EO n f m,ve,if_pos rfl,List.replicate_succ']
theorem JO(W:List (List Int))(S:List Int):TI [.arr 1 false 0 (List.replicate S.length .nil),.box [.t (.sl (W.map tL)),.t (tL S),.ref 0 0 S.length]] 1 0 (fun _=>0) W S (List.replicate S.length []) where
 hb:=by rw[List.length_replicate];rfl
 hg:=by rw[EO,List.length_replicate];rfl
 hf n hn hne:=absurd (ve _ _) hne
 bg:=by omega
 inj n m _ _ hne:=absurd (ve _ _) hne
 fb n _ hne:=absurd (ve _ _) hne
theorem EP{W:List (List Int)}{S:List Int}(hW:W.length≤1000)(hS:S.length≤1000)(hwl:∀i,(nth W i).length≤1000000):
 ∃c:Nat,aG 0 N.bR [.t (.sl (W.map tL)),.t (tL S)] []=some (I c,[])∧(∃(G:List (List Int)) (U:Nat→Prop),MI W S G W.length c U)∧c≤W.length:=by
 have loop:∃q,exS aG K.pX ⟨[.t (.sl (W.map tL)),.t (tL S),I 0,.bp 1 0,I 0,.und,I W.length,I 0],[.arr 1 false 0 (List.replicate S.length .nil),.box [.t (.sl (W.map tL)),.t (tL S),.ref 0 0 S.length]]⟩=some q∧
  ∃(c:Nat) (J:ae),q=(.exit 0,⟨[.und,.t (tL S),.und,.bp 1 0,I c,.und,I W.length,I W.length],J⟩)∧(∃(G:List (List Int)) (U:Nat→Prop),MI W S G W.length c U)∧c≤W.length:=by
  refine AQ (fun j st=>∃(c:Nat) (J:ae) (f:Nat→Nat) (G:List (List Int)) (U:Nat→Prop),TI J 1 0 f W S G∧MI W S G j c U∧c≤j∧st=⟨[.und,.t (tL S),.und,.bp 1 0,I c,.und,I W.length,I j],J⟩) W.length _ ⟨0,_,_,_,_,JO W S,MI.zero W S,aLs _,by simp only[go_sem,Int.natCast_zero]⟩ ?_ ?_
  · rintro j st hj ⟨c,J,f,G,U,rg,mi,cj,rfl⟩
    left
    obtain⟨r,J2,f2,G2,U2,oc,rg2,mi2⟩:=JN rg hW hS hwl hj mi
    refine⟨⟨[.und,.t (tL S),.und,.bp 1 0,I ((if r then c+1 else c:Nat):Int),.und,I W.length,I (j+1:Nat)],J2⟩,?_,_,J2,f2,G2,U2,rg2,mi2,by split<;>omega,rfl⟩
    rw[show bls (List.replicate S.length false)=List.replicate S.length (.t (.bool false))by simp[bls]]at oc
    have k0:=rg.hb
    clear rg rg2 mi mi2
    generalize W.length=wl at*
    cases r with
    | true=>
      simp(disch:=omega)only[go_sem,K.iQ,↓reduceIte,oc,reduceAdd,reduceSub]
    | false=>
      simp(disch:=omega)only[go_sem,K.iQ,↓reduceIte,oc,reduceAdd,reduceSub]
  · rintro st ⟨c,J,f,G,U,rg,mi,cj,rfl⟩
    refine⟨(.exit 0,⟨[.und,.t (tL S),.und,.bp 1 0,I c,.und,I W.length,I W.length],J⟩),?_,by simp,c,J,rfl,⟨G,U,mi⟩,cj⟩
    clear rg mi
    generalize W.length=wl at*
    simp(disch:=omega)only[go_sem,K.iQ,↓reduceIte,reduceAdd,reduceSub]
 obtain⟨q,hq,c,J,rfl,mo,cw⟩:=loop
 refine⟨c,ay K.mR rfl ?_,mo,cw⟩
 clear mo
 simp(disch:=omega)only[go_sem,K.bR,↓reduceIte,hq,reduceAdd,reduceSub]
theorem TJ{W:List (List Int)}{S:List Int}(hW:W.length≤1000)(hS:S.length≤1000)(hwl:∀i,(nth W i).length≤1000000):
 ∃c:Nat,aG 0 N.bR [.t (.sl (W.map tL)),.t (tL S)] []=some (I c,[])∧AI W S c∧c≤W.length:=by
 obtain⟨c,a,⟨G,U,b⟩,d⟩:=EP hW hS hwl
 exact⟨c,a,b.afG,d⟩
theorem rU{W:List (List Int)}{S:List Int}(hW:W.length≤12)(hS:S.length≤1000)(hwl:∀i,(nth W i).length≤1000000):
 aG 0 N.bR [.t (.sl (W.map tL)),.t (tL S)] []=some (I (kB W S),[])∧∃c:Nat,kB W S=c∧AI W S c∧c≤W.length:=by
 obtain⟨c,a,⟨G,U,b⟩,d⟩:=EP (by omega) hS hwl
 have e:=b.kB hW
 rw[← e]
 exact⟨a,c,rfl,b.afG,d⟩
end Go.Ev
namespace Go.Ev
open Go
variable [Lib] [aZ] [bc] [cG] [cJ]
theorem JP{H H':ae}:∀(k:Nat) (d:D),(∀i∈dC H k d,∃sz pin pin' ep es,H[i]?=some (.arr sz pin ep es)∧H'[i]?=some (.arr sz pin' ep es))→frz H' k d=frz H k d∧dC H' k d=dC H k d:=by
 intro k
 induction k with
 | zero=>intro d _;cases d<;>exact⟨rfl,rfl⟩
 | succ k ih=>
   intro d h
   have list:∀es:List D,(∀i∈es.flatMap (dC H k),∃sz pin pin' ep es,H[i]?=some (.arr sz pin ep es)∧H'[i]?=some (.arr sz pin' ep es))→aW (frz H' k) es=aW (frz H k) es∧es.flatMap (dC H' k)=es.flatMap (dC H k):=by
    intro es
    induction es with
    | nil=>intro _;exact⟨rfl,rfl⟩
    | cons e es ihl=>
      intro he
      obtain⟨a1,a2⟩:=ih e fun i hi=>he i (by simp[hi])
      obtain⟨b1,b2⟩:=ihl fun i hi=>he i (by rw[List.flatMap_cons];exact List.mem_append_right _ hi)
      exact⟨by simp only[aW,a1,b1],by simp only[List.flatMap_cons,a2,b2]⟩
   cases d with
   | agg cs=>
     simp only[dC]at h
     obtain⟨a1,a2⟩:=list cs h
     exact⟨by simp only[frz,a1],by simp only[dC,a2]⟩
   | ref id ep n=>
     obtain⟨sz,pin,pin',ep',es,e1,e2⟩:=h id (by simp[dC])
     have:∀i∈es.flatMap (dC H k),∃sz pin pin' ep es,H[i]?=some (.arr sz pin ep es)∧H'[i]?=some (.arr sz pin' ep es):=fun i hi=>h i (by simp only[dC,e1];exact List.mem_cons_of_mem _ hi)
     obtain⟨a1,a2⟩:=list es this
     refine⟨?_,by simp only[dC,e1,e2,a2]⟩
     simp only[frz,eJ,e1,e2]
     by_cases c:ep=ep'∧n=es.length
     · simp only[if_pos c,aLq,a1]
     · simp only[if_neg c,Option.bind_none]
   | sub id ep n lo hi=>
     obtain⟨sz,pin,pin',ep',es,e1,e2⟩:=h id (by simp[dC])
     have:∀i∈es.flatMap (dC H k),∃sz pin pin' ep es,H[i]?=some (.arr sz pin ep es)∧H'[i]?=some (.arr sz pin' ep es):=fun i hi=>h i (by simp only[dC,e1];exact List.mem_cons_of_mem _ hi)
     obtain⟨a1,a2⟩:=list es this
     have:∀i∈((es.drop lo).take (hi-lo)).flatMap (dC H k),∃sz pin pin' ep es,H[i]?=some (.arr sz pin ep es)∧H'[i]?=some (.arr sz pin' ep es):=fun i hi=>by
      obtain⟨e,he,hi⟩:=List.mem_flatMap.1 hi
      exact this i (List.mem_flatMap.2 ⟨e,List.mem_of_mem_drop (List.mem_of_mem_take he),hi⟩)
     obtain⟨b1,b2⟩:=list _ this
     refine⟨?_,by simp only[dC,e1,e2,a2]⟩
     simp only[frz,eJ,e1,e2]
     by_cases c:ep=ep'∧n=es.length
     · simp only[if_pos c,aLq,b1]
     · simp only[if_neg c,Option.bind_none]
   | _=>exact⟨rfl,rfl⟩
section
variable {bm : aK} (hm : bm.ok) {t : Int} (i : Nat) {H : ae} {io iB iO n a fbi tl : Nat} {es : List D} {whr : List Wh} (e1 : H[iO]? = some (.box [.ref io 0 n])) (e2 : H[io]? = some (.arr 2 false 0 es)) (e3 : es.length = n)
 (e4:es[i]?=some (.agg [.ref a 0 tl,.ref fbi 0 whr.length])) (e5:H[fbi]?=some (.arr 2 false 0 (whs whr))) (e6:H[iB]?=some (.box (ab bm))) (hi:i<n) (hn:n≤1000000) (hl:whr.length≤1000000)
include hm e1 e2 e3 e4 e5 e6 hi hn hl
end
theorem JQ{gc:Bool}{dead:List Nat}{c:C}{vs:List D}{H:ae}(P:Nat→St→Prop)(n:Nat)(p:Nat→Bool)(Q:Bool→Ex×St→Prop)(h0:P 0 ⟨ir dead vs,H⟩)
 (hs:∀j st,j<n→p j=false→P j st→∃st',iI gc dead st.H.length (exS aG c st)=some st'∧P (j+1) st')
 (he:∀j st,j<n→p j=true→P j st→∃q,exS aG c st=some q∧q.1≠ .normal∧Q true q)
 (hN:∀st,P n st→∃q,exS aG c st=some q∧q.1≠ .normal∧Q false q):∃q,exS aG (.loop gc dead c) ⟨vs,H⟩=some q∧Q ((List.range n).any p) q:=by
 have key:∀(k j:Nat) (st:St),j+k=n→(∀i,i<j→p i=false)→P j st→∃q,jy gc dead (exS aG c) st=some q∧Q ((List.range n).any p) q:=by
  intro k
  induction k with
  | zero=>
    intro j st hj hlt hp
    obtain⟨q,h1,h2,h3⟩:=hN st (by rw[← hj];exact hp)
    have:(List.range n).any p=false:=by
     rw[List.any_eq_false]
     intro x hx
     rw[hlt x (by have:=aLu.1 hx;omega)];simp
    rw[this]
    exact⟨q,c7 h1 h2,h3⟩
  | succ k ih=>
    intro j st hj hlt hp
    cases hpj:p j with
    | true=>
      obtain⟨q,h1,h2,h3⟩:=he j st (by omega) hpj hp
      have:(List.range n).any p=true:=List.any_eq_true.2 ⟨j,aLu.2 (by omega),hpj⟩
      rw[this]
      exact⟨q,c7 h1 h2,h3⟩
    | false=>
      obtain⟨st',h1,h2⟩:=hs j st (by omega) hpj hp
      obtain⟨q,h3,h4⟩:=ih (j+1) st' (by omega) (fun i hi=>by
       by_cases e:i=j
       · rw[e];exact hpj
       · exact hlt i (by omega)) h2
      exact⟨q,gK h1 h3,h4⟩
 exact key n 0 _ (by omega) (fun i hi=>by omega) h0
theorem Rp.app{H:ae}{id:Nat}{es:List D}{fa fb:Nat→Nat}{out:List World}(hr:Rp H id es fa fb out)(t:ae):Rp (H++t) id es fa fb out:=
 ⟨by rw[ue (yT hr.arr)];exact hr.arr,hr.len,hr.el,fun j hj=>by rw[ue (yT (hr.ha j hj))];exact hr.ha j hj,fun j hj=>by rw[ue (yT (hr.hb j hj))];exact hr.hb j hj,hr.na,hr.nb,hr.nab,hr.nbb⟩
structure SlH(H:ae)(b:List World)(bm:aK)(iB iO io:Nat)(es:List D)(fa fb:Nat→Nat)(A:List Nat)(O:List World):Prop where
 h1:H[1]?=some (.box [.ref 3 0 b.length])
 h2:H[2]?=some (.box [.nil])
 hB:H[iB]?=some (.box (ab bm))
 hO:H[iO]?=some (.box [.ref io 0 O.length])
 rp:Rp H io es fa fb O
 ar:∀i∈A,∃sz pin ep es,H[i]?=some (.arr sz pin ep es)
 nA:∀i∈A,∀j,j<O.length→i≠fb j
 eA:dC H 7 (.ref 3 0 b.length)=A
 fr:frz H 7 (.ref 3 0 b.length)=some (.sl (b.map World.e))
theorem SlH.step{H:ae}{b:List World}{bm:aK}{iB iO io:Nat}{es:List D}{fa fb:Nat→Nat}{A:List Nat}{O:List World}(h:SlH H b bm iB iO io es fa fb A O){i:Nat}(hi:i<O.length)(x:World)(ht:(nth O i).tags=x.tags)
 (hw:x.whr.length=(nth O i).whr.length) (o:Obj):SlH (H.set (fb i) (.arr 2 false 0 (whs x.whr))++[o]) b bm iB iO io es fa fb A (O.set i x):=by
 have hb:=h.rp.hb i hi
 have nb:∀ {k:Nat} {cs:List D},H[k]?=some (.box cs)→(H.set (fb i) (.arr 2 false 0 (whs x.whr))++[o])[k]?=some (.box cs):=fun{k cs} hk=>by
  have ne:fb i≠k:=fun e=>by rw[e,hk]at hb;cases hb
  rw[ue (by rw[List.length_set];exact yT hk),oq ne];exact hk
 have na:∀k∈A,(H.set (fb i) (.arr 2 false 0 (whs x.whr))++[o])[k]?=H[k]?:=fun k hk=>by
  obtain⟨sz,pin,ep,es',e⟩:=h.ar k hk
  rw[ue (by rw[List.length_set];exact yT e),oq (fun e=>h.nA k hk i hi e.symm)]
 have fc:=JP (H:=H) (H':=H.set (fb i) (.arr 2 false 0 (whs x.whr))++[o]) 7 (.ref 3 0 b.length) (fun k hk=>by
  rw[h.eA]at hk
  obtain⟨sz,pin,ep,es',e⟩:=h.ar k hk
  exact⟨sz,pin,pin,ep,es',e,by rw[na k hk];exact e⟩)
 refine⟨nb h.h1,nb h.h2,nb h.hB,by rw[List.length_set];exact nb h.hO,(h.rp.merge hi x ht hw).app _,fun k hk=>?_,by rw[List.length_set];exact h.nA,by rw[fc.2];exact h.eA,by rw[fc.1];exact h.fr⟩
 obtain⟨sz,pin,ep,es',e⟩:=h.ar k hk
 exact⟨sz,pin,ep,es',by rw[na k hk];exact e⟩
end Go.Ev
namespace Go.Ev
open Go
variable [Lib] [aZ] [bc] [cG] [cJ]
def C.snd:C→C
 | .seq _ b=>b
 | c=>c
section
variable (x : FW) (s : ZF) (k : Keys) (b : Bel) (hx : x.area.length ≤ 1000000) (hk : k.roads.length ≤ 1000000) (hk2 : k.keys.length ≤ 1000000) (hb : b.sz)
include hx hk hk2 hb
end
end Go.Ev
namespace Go.Ev
open Go
variable [Lib] [aZ] [bc] [cG] [cJ]
section
variable (d d1 d2 d3 d4 d5 : ax) (p a3 : Bool) (st fi se ti now ar ag f1 f2 a1 a2 a4 : Int) (n : Nat) (b : Int) (h0 : 0 ≤ now) (h1 : now ≤ b) (hb : b ≤ 100000) (e5 : d5.cy) (l2 : 0 ≤ a2) (m1 : 0 ≤ a1 ∧ a1 ≤ 301) (l4 : 0 ≤ a4) (h4 : a4 < 3) (hn : n ≤ 30)
 (o1:aG 0 N.bh [.bp 0 0,.t (.sl [.int .i64 0,.int .i64 10,.int .i64 200,.int .i64 301])] [d.obj]=some (I a1,[d1.obj])) (o2:aG 0 N.aq [.bp 0 0,I 6] [d1.obj]=some (I a2,[d2.obj]))
 (o3:aG 0 N.bj [.bp 0 0,I 6] [d2.obj]=some (B a3,[d3.obj])) (o4:aG 0 N.aq [.bp 0 0,I 3] [d3.obj]=some (I a4,[d4.obj]))
include h0 h1 hb e5 l2 m1 l4 h4 hn o1 o2 o3 o4
end
end Go.Ev
namespace Go.Ev
open Go
variable [Lib] [aZ] [bc] [cG]
end Go.Ev
namespace Go.Ev
open Go
variable [Lib] [aZ] [bc] [cG] [cJ]
def ax.lF(d:ax):Nat→List Int×ax
 | 0=>([],d)
 | j+1=>((d.lF j).1++[((d.lF j).2.next 9).1-1],((d.lF j).2.next 9).2)
theorem ax.rV(d:ax):∀j,(d.lF j).1.length=j
 | 0=>rfl
 | j+1=>by simp only[ax.lF,aLv,List.length_singleton,ax.rV d j]
theorem ax.qx{d:ax}(h:d.cy):∀j,(d.lF j).2.cy
 | 0=>h
 | j+1=>ax.bw (ax.qx h j) 9
def ax.w8(d:ax):List Int×ax:=(d.next 5).2.lF (d.next 5).1.toNat
theorem ax.CV{d:ax}(h:d.cy):d.w8.2.cy:=ax.qx (ax.bw h 5) _
theorem ax.A0(d:ax):d.w8.1.length≤4:=by
 have:=d.fY (n:=5) (by omega)
 unfold ax.w8
 rw[ax.rV];omega
theorem TK(d:ax)(hd:d.cy):aG 0 N.cF [.bp 0 0] [d.obj]=some (.t (tL d.w8.1),[d.w8.2.obj]):=by
 refine ay K.jD rfl ?_
 have o1:=iv d 5 (by omega) hd
 have l1:=d.gG 5
 have h1:=d.fY (n:=5) (by omega)
 have e1:=d.bw hd 5
 unfold ax.w8
 generalize d.next 5=r at*
 obtain⟨a,d1⟩:=r
 simp only at o1 l1 h1 e1 ⊢
 obtain⟨n,rfl⟩:=Int.eq_ofNat_of_zero_le l1
 simp only[Int.toNat_natCast]
 have loop:∀z:D,exS aG K.ma ⟨[.bp 0 0,z,.ref 1 0 0,I n],[d1.obj,.arr 1 false 0 []]⟩=some (.exit 0,⟨[.bp 0 0,.und,.ref 1 0 (d1.lF n).1.length,I 0],[(d1.lF n).2.obj,.arr 1 false 0 (ints (d1.lF n).1)]⟩):=by
  intro z
  refine bV (fun j=>⟨[.bp 0 0,.und,.ref 1 0 (d1.lF j).1.length,I ((n-j:Nat):Int)],[(d1.lF j).2.obj,.arr 1 false 0 (ints (d1.lF j).1)]⟩) n rfl ?_ ?_ (by simp)
  · intro j hj
    have il:=d1.rV j
    have lt:=ax.qx e1 j
    simp only[ax.lF]
    generalize d1.lF j=s at*
    obtain⟨out,dj⟩:=s
    simp only at il lt ⊢
    have o2:=iv dj 9 (by omega) lt
    have l2:=dj.gG 9
    have h2:=dj.fY (n:=9) (by omega)
    generalize dj.next 9=s at*
    obtain⟨x,dk⟩:=s
    obtain⟨k,hk⟩:∃k,n-j=k+1:=⟨n-j-1,by omega⟩
    have hk2:n-(j+1)=k:=by omega
    have wk:IntKind.i64.wrap (k:Int)=k:=bU (by omega) (by omega)
    simp only[ints,hk,hk2]at*
    simp(disch:=omega)only[go_sem,K.iM,↓reduceIte,o2,wk,reduceAdd,reduceSub]
  · simp only[Nat.sub_self]
    simp(disch:=omega)only[go_sem,K.iM,↓reduceIte,ints,reduceAdd,reduceSub]
 have il:=d1.rV n
 generalize d1.lF n=s at*
 obtain⟨out,dj⟩:=s
 simp only[ints]at*
 simp(disch:=omega)only[go_sem,K.cF,↓reduceIte,o1,loop,reduceAdd,reduceSub]
structure Scn(x:FW)(k:Keys)(c:Bel)(d:ax):Prop where
 hx:x.area.length≤64
 h1:0≤x.hold
 h2:x.hold≤1000
 m1:0≤x.mis
 m2:x.mis≤10000
 hk:k.roads.length≤64
 hk2:k.keys.length≤64
 hc:c.sz
 cy:d.cy
end Go.Ev
namespace Go.Ev
open Go
variable [Lib] [aZ] [bc] [cG] [cJ] [eC] [cL] [cM] [dG] [dE] [bI] [bM] [cA] [cB] [gY] [dR]
def ax.BN(d:ax):Nat→List (List Int)×ax
 | 0=>([],d)
 | j+1=>((d.BN j).1++[(d.BN j).2.w8.1],(d.BN j).2.w8.2)
def ax.A1(d:ax):Nat→List Int×ax
 | 0=>([],d)
 | j+1=>((d.A1 j).1++[((d.A1 j).2.of [1,0,2, -1,100]).1],((d.A1 j).2.of [1,0,2, -1,100]).2)
theorem ax.za(d:ax):∀j,(d.BN j).1.length=j
 | 0=>rfl
 | j+1=>by simp only[ax.BN,aLv,List.length_singleton,ax.za d j]
theorem ax.zb(d:ax):∀j,(d.A1 j).1.length=j
 | 0=>rfl
 | j+1=>by simp only[ax.A1,aLv,List.length_singleton,ax.zb d j]
theorem ax.tw{d:ax}(h:d.cy):∀j,(d.BN j).2.cy
 | 0=>h
 | j+1=>ax.CV (ax.tw h j)
theorem ax.tx{d:ax}(h:d.cy):∀j,(d.A1 j).2.cy
 | 0=>h
 | j+1=>ax.jX (ax.tx h j) _
theorem ax.A2(d:ax):∀j,∀x∈(d.lF j).1, -1≤x∧x≤7
 | 0,x,h=>by simp[ax.lF]at h
 | j+1,x,h=>by
   rw[ax.lF,List.mem_append]at h
   rcases h with h | h
   · exact ax.A2 d j x h
   · rw[List.mem_singleton.1 h]
     have:=(d.lF j).2.gG 9
     have:=(d.lF j).2.fY (n:=9) (by omega)
     omega
theorem ax.ER(d:ax):∀j,∀l∈(d.BN j).1,l.length≤4∧∀x∈l, -1≤x∧x≤7
 | 0,x,h=>by simp[ax.BN]at h
 | j+1,x,h=>by
   rw[ax.BN,List.mem_append]at h
   rcases h with h | h
   · exact ax.ER d j x h
   · rw[List.mem_singleton.1 h]
     exact⟨ax.A0 _,by unfold ax.w8;exact ax.A2 _ _⟩
theorem ax.ES(d:ax):∀j,∀x∈(d.A1 j).1, -1≤x∧x≤100
 | 0,x,h=>by simp[ax.A1]at h
 | j+1,x,h=>by
   rw[ax.A1,List.mem_append]at h
   rcases h with h | h
   · exact ax.ES d j x h
   · rw[List.mem_singleton.1 h]
     have:=(d.A1 j).2.pV (l:=[1,0,2, -1,100]) (by simp)
     simp only[List.mem_cons,List.not_mem_nil,or_false]at this
     omega
structure WS(W:List (List Int))(S:List Int):Prop where
 wl:W.length≤6
 sl:S.length≤5
 wb:∀l∈W,l.length≤4∧∀x∈l, -1≤x∧x≤7
 sb:∀x∈S, -1≤x∧x≤100
theorem JR(d:ax)(hd:d.cy):∃(W:List (List Int)) (S:List Int) (d':ax),aG 0 N.dL [.bp 0 0] [d.obj]=some (.tup [.t (.sl (W.map tL)),.t (tL S)],[d'.obj])∧WS W S∧d'.cy:=by
 have o1:=iv d 7 (by omega) hd
 have l1:=d.gG 7
 have h1:=d.fY (n:=7) (by omega)
 have e1:=d.bw hd 7
 generalize d.next 7=r at*
 obtain⟨a,d1⟩:=r
 simp only at o1 l1 h1 e1 ⊢
 obtain⟨n,rfl⟩:=Int.eq_ofNat_of_zero_le l1
 have wl:=d1.za n
 have wb:=d1.ER n
 have lt:=ax.tw e1 n
 have loop1:∀z1 z2 z5 z6:D,exS aG K.ox ⟨[.bp 0 0,z1,z2,.ref 1 0 0,I n,z5,z6],[d1.obj,.arr 1 false 0 []]⟩=some (.exit 0,⟨[.bp 0 0,.und,.und,.ref 1 0 n,I 0,.und,.und],[(d1.BN n).2.obj,.arr 1 false 0 (((d1.BN n).1.map tL).map .t)]⟩):=by
  intro z1 z2 z5 z6
  refine bV (fun j=>⟨[.bp 0 0,.und,.und,.ref 1 0 j,I ((n-j:Nat):Int),.und,.und],[(d1.BN j).2.obj,.arr 1 false 0 (((d1.BN j).1.map tL).map .t)]⟩) n rfl ?_ ?_ (by simp)
  · intro j hj
    have il:=d1.za j
    have lt:=ax.tw e1 j
    simp only[ax.BN]
    generalize d1.BN j=s at*
    obtain⟨out,dj⟩:=s
    simp only at il lt ⊢
    subst il
    have o2:=TK dj lt
    have l2:=dj.A0
    generalize dj.w8=s at*
    obtain⟨x,dk⟩:=s
    obtain⟨k,hk⟩:∃k,n-out.length=k+1:=⟨n-out.length-1,by omega⟩
    have hk2:n-(out.length+1)=k:=by omega
    have wk:IntKind.i64.wrap (k:Int)=k:=bU (by omega) (by omega)
    simp only[hk,hk2]at*
    simp(disch:=omega)only[go_sem,K.jE,↓reduceIte,o2,wk,reduceAdd,reduceSub]
  · simp only[Nat.sub_self]
    simp(disch:=omega)only[go_sem,K.jE,↓reduceIte,reduceAdd,reduceSub]
 generalize d1.BN n=s at*
 obtain⟨W,d2⟩:=s
 simp only at wl wb lt loop1
 have o3:=iv d2 6 (by omega) lt
 have l3:=d2.gG 6
 have h3:=d2.fY (n:=6) (by omega)
 have e3:=d2.bw lt 6
 generalize d2.next 6=r at*
 obtain⟨a,d3⟩:=r
 simp only at o3 l3 h3 e3
 obtain⟨m,rfl⟩:=Int.eq_ofNat_of_zero_le l3
 have sl:=d3.zb m
 have sb:=d3.ES m
 have lt4:=ax.tx e3 m
 have loop2:∀z1 z2 z4:D,exS aG K.oy ⟨[.bp 0 0,z1,z2,.ref 1 0 n,z4,.ref 2 0 0,I m],[d3.obj,.arr 1 false 0 ((W.map tL).map .t),.arr 1 false 0 []]⟩=some (.exit 2,⟨[.bp 0 0,.und,.und,.ref 1 0 n,.und,.ref 2 0 m,I 0],[(d3.A1 m).2.obj,.arr 1 false 0 ((W.map tL).map .t),.arr 1 false 0 (ints (d3.A1 m).1)]⟩):=by
  intro z1 z2 z4
  clear loop1
  generalize (W.map tL)=A at*
  refine bV (fun j=>⟨[.bp 0 0,.und,.und,.ref 1 0 n,.und,.ref 2 0 j,I ((m-j:Nat):Int)],[(d3.A1 j).2.obj,.arr 1 false 0 (A.map .t),.arr 1 false 0 (ints (d3.A1 j).1)]⟩) m rfl ?_ ?_ (by simp)
  · intro j hj
    have il:=d3.zb j
    have lt:=ax.tx e3 j
    simp only[ax.A1]
    generalize d3.A1 j=s at*
    obtain⟨out,dj⟩:=s
    simp only at il lt ⊢
    subst il
    have o2:aG 0 N.bh [.bp 0 0,.t (.sl [tI 1,tI 0,tI 2,tI (-1),tI 100])] [dj.obj]=some (I (dj.of [1,0,2, -1,100]).1,[(dj.of [1,0,2, -1,100]).2.obj]):=FU dj [1,0,2, -1,100] (by simp) (by simp) lt
    generalize dj.of [1,0,2, -1,100]=s at*
    obtain⟨x,dk⟩:=s
    obtain⟨k,hk⟩:∃k,m-out.length=k+1:=⟨m-out.length-1,by omega⟩
    have hk2:m-(out.length+1)=k:=by omega
    have wk:IntKind.i64.wrap (k:Int)=k:=bU (by omega) (by omega)
    simp only[hk,hk2,ints]at*
    simp(disch:=omega)only[go_sem,K.jF,↓reduceIte,o2,wk,reduceAdd,reduceSub]
  · simp only[Nat.sub_self]
    simp(disch:=omega)only[go_sem,K.jF,↓reduceIte,reduceAdd,reduceSub]
 generalize d3.A1 m=s at*
 obtain⟨S,d4⟩:=s
 simp only at sl sb lt4 loop2
 refine⟨W,S,d4,ay K.lr rfl ?_,⟨by omega,by omega,wb,sb⟩,lt4⟩
 subst sl
 subst wl
 simp only[ints]at loop2
 simp(disch:=omega)only[go_sem,K.dL,↓reduceIte,o1,loop1,o3,loop2,reduceAdd,reduceSub]
theorem M6{W:List (List Int)}{i:Nat}(h:i<W.length):nth W i∈W:=by
 unfold nth
 rw[aLl,aLc h]
 exact List.getElem_mem h
theorem WS.afG{W:List (List Int)}{S:List Int}(h:WS W S):∃c:Nat,aG 0 N.bR [.t (.sl (W.map tL)),.t (tL S)] []=some (I c,[])∧AI W S c∧c≤W.length:=by
 have:=h.wl
 have:=h.sl
 refine TJ (by omega) (by omega) (fun i=>?_)
 · by_cases l:i<W.length
   · have:=(h.wb _ (M6 l)).1;omega
   · unfold nth;rw[aLl,aLm (by omega)];exact Nat.zero_le _
end Go.Ev
namespace Go.Ev
open Go
variable [Lib] [aZ] [bc]
structure OfI(m:aK)(p:Nat)(l:List Int):Prop where
 ln:l.length=m.aa.length
 bd:bnd l
 z:nth l p=0
theorem OfI.set{m:aK}{p:Nat}{l:List Int}(h:OfI m p l){q:Nat}{x:Int}(hq:q<l.length)(h0:0<x)(hx:x<nth l q):OfI m p (l.set q x):=by
 have b1:=h.bd _ (aI hq)
 refine⟨by rw[List.length_set];exact h.ln,RR h.bd (by omega) (by omega),?_⟩
 rw[mO _ _ hq]
 split
 · rename_i e;subst e;have:=h.z;omega
 · exact h.z
@[go_sem] theorem aay : iC [] [] [] = some true := (rfl)
@[go_sem] theorem aaz (ks : List Bool) (k : IntKind) (a b : Int) (xs ys : List T) : iC (true :: ks) (.int k a :: xs) (.int k b :: ys) = Me (decide (a = b)) (iC ks xs ys) := by
 simp only[iC,if_true,XM]
 cases iC ks xs ys<;>rfl
@[go_sem] theorem W5 (ks : List Bool) (a b : Bool) (xs ys : List T) : iC (false :: ks) (.bool a :: xs) (.bool b :: ys) = Me (decide (a = b)) (iC ks xs ys) := by
 simp only[iC,show(a==b)=decide (a=b)from rfl]
 cases iC ks xs ys<;>rfl
@[go_sem] theorem adf (H : ae) (ks : List Bool) (neg : Bool) (xs ys : List T) : mF H (.sc ks) neg (some (.t (.agg xs))) (some (.t (.agg ys))) = Mf H neg (iC ks xs ys) := by
 simp only[mF,aLq,NI,eqD]
 cases iC ks xs ys with
 | none=>rfl
 | some r=>cases neg<;>rfl
end Go.Ev
namespace Go.Ev.K
open Go.Ev
end Go.Ev.K
namespace Go.Ev
class gw [Lib]:Prop where
namespace K
variable [Lib] [gw]
end K
end Go.Ev
namespace Go.Ev.K
open Go.Ev
end Go.Ev.K
namespace Go.Ev
class gz [Lib]:Prop where
namespace K
variable [Lib] [gz]
end K
end Go.Ev
namespace Go.Ev
open Go
variable [Lib] [aZ] [bc] [cG] [cJ] [cL] [cM] [dG] [dE] [gw] [gz]
end Go.Ev
namespace Go.Ev
open Go
variable [Lib] [aZ] [bc] [cG] [cJ] [eC] [cL] [cM] [dG] [dE] [bI] [bM] [cA] [cB]
end Go.Ev
namespace Go.Ev
open Go
variable [Lib] [aZ] [bc] [cG] [cJ] [eC] [cL] [cM] [dG] [dE] [bI] [bM] [cA] [cB] [gw] [gz]
end Go.Ev
namespace Go.Ev
open Go
variable [Lib]
structure Edge where
 r:Nat
 a:Nat
 b:Nat
 t:Int
structure Lab where
 t:Int
 r:Int
 deriving DecidableEq
instance : Dat Edge := ⟨⟨0, 0, 0, 0⟩⟩
instance : Dat Lab := ⟨⟨0, 0⟩⟩
def kC(x y:Lab):Bool:=decide (x.t<y.t)||(decide (x.t=y.t)&&decide (x.r<y.r))
theorem me{x y:Lab}:kC x y=true↔x.t<y.t∨x.t=y.t∧x.r<y.r:=by
 simp[kC]
theorem mU{x y:Lab}:kC x y=false↔¬(x.t<y.t∨x.t=y.t∧x.r<y.r):=by
 rw[← me,Bool.not_eq_true]
def kp(L:List Lab)(e:Edge):Lab:=⟨(nth L e.b).t+e.t,(nth L e.b).r+1⟩
def A3(F:Int)(u:Edge→Bool)(L:List Lab)(e:Edge):Bool:=u e&&decide ((nth L e.b).t<F)&&kC (kp L e) (nth L e.a)
def Le(F:Int)(u:Edge→Bool)(L:List Lab)(e:Edge):List Lab:=if A3 F u L e then L.set e.a (kp L e)else L
def sF(F:Int)(u:Edge→Bool)(E:List Edge)(L:List Lab)(c:Bool):Nat→List Lab×Bool
 | 0=>(L,c)
 | j+1=>(Le F u (sF F u E L c j).1 (nth E j),(sF F u E L c j).2||A3 F u (sF F u E L c j).1 (nth E j))
structure ET(F:Int)(n:Nat)(L:List Lab):Prop where
 l:L.length=n
 t0:∀p,p<n→0≤(nth L p).t
 t1:∀p,p<n→(nth L p).t≤F
 r0:∀p,p<n→0≤(nth L p).r
 r1:∀p,p<n→(nth L p).r≤(nth L p).t
def Edge.ok(n:Nat)(e:Edge):Prop:=e.a<n∧e.b<n∧1≤e.t∧e.t≤1000000
def wL(F:Int)(x:Lab):Nat:=(x.t*(F+1)+x.r).toNat
def M7(F:Int)(L:List Lab):Nat:=(L.map (wL F)).sum
theorem JS(f:Lab→Nat):∀(L:List Lab) (i:Nat) (x:Lab),i<L.length→f x<f (nth L i)→((L.set i x).map f).sum<(L.map f).sum
 | [],i,x,h,_=>absurd h (by simp)
 | y::L,0,x,_,h=>by
   simp only[List.set_cons_zero,List.map_cons,List.sum_cons]
   have:nth (y::L) 0=y:=rfl
   rw[this]at h
   omega
 | y::L,i+1,x,h,h2=>by
   simp only[List.set_cons_succ,List.map_cons,List.sum_cons]
   have e:nth (y::L) (i+1)=nth L i:=rfl
   rw[e]at h2
   have:=JS f L i x (by simpa using h) h2
   omega
theorem mV{L:List Lab}{i j:Nat}{a:Lab}(h:j≠i):nth (L.set j a) i=nth L i:=by
 unfold nth
 simp only[aLl,aLi h]
theorem qy{L:List Lab}{i:Nat}{a:Lab}(h:i<L.length):nth (L.set i a) i=a:=fw (aLj h)
theorem af5{F:Int}{x y:Lab}(h:kC x y=true)(h0:0≤x.t)(h1:x.t≤F)(h2:0≤x.r)(h3:x.r≤x.t)(h4:0≤y.r):wL F x<wL F y:=by
 unfold wL
 rw[me]at h
 have p0:0≤x.t*(F+1):=Int.mul_nonneg h0 (by omega)
 have key:x.t*(F+1)+x.r<y.t*(F+1)+y.r:=by
  rcases h with h | ⟨h,h'⟩
  · have:(x.t+1)*(F+1)≤y.t*(F+1):=Int.mul_le_mul_of_nonneg_right (by omega) (by omega)
    rw[Int.add_mul]at this
    omega
  · rw[h];omega
 omega
theorem JT{F:Int}{n:Nat}{u:Edge→Bool}{L:List Lab}(h:ET F n L){e:Edge}(he:e.ok n):ET F n (Le F u L e)∧(A3 F u L e=true→M7 F (Le F u L e)<M7 F L):=by
 unfold Le
 cases hc:A3 F u L e with
 | false=>exact⟨by simpa using h,by simp⟩
 | true=>
   simp only[if_true]
   unfold A3 at hc
   simp only[aLr,decide_eq_true_eq]at hc
   obtain⟨⟨-,c2⟩,c3⟩:=hc
   obtain⟨ha,hb,ht,ht2⟩:=he
   have q:=c3
   rw[me]at q
   have b0:=h.t0 _ hb
   have b1:=h.r0 _ hb
   have b2:=h.r1 _ hb
   have a1:=h.t1 _ ha
   have a0:=h.r0 _ ha
   have ct:(kp L e).t=(nth L e.b).t+e.t:=rfl
   have cr:(kp L e).r=(nth L e.b).r+1:=rfl
   refine⟨⟨by rw[List.length_set];exact h.l,?_,?_,?_,?_⟩,fun _=>JS (wL F) L e.a _ (by rw[h.l];exact ha) (af5 c3 (by omega) (by omega) (by omega) (by omega) a0)⟩
   all_goals
    intro p hp
    by_cases c:p=e.a
    · subst c
      rw[qy (by rw[h.l];exact ha)]
      omega
    · rw[mV (fun h=>c h.symm)]
      first | exact h.t0 p hp | exact h.t1 p hp | exact h.r0 p hp | exact h.r1 p hp
theorem A4{F:Int}{n:Nat}{u:Edge→Bool}{E:List Edge}(hE:∀e∈E,e.ok n){L:List Lab}(h:ET F n L):∀j,j≤E.length→ET F n (sF F u E L false j).1∧M7 F (sF F u E L false j).1≤M7 F L∧
 ((sF F u E L false j).2=true→M7 F (sF F u E L false j).1<M7 F L)∧((sF F u E L false j).2=false→(sF F u E L false j).1=L∧∀i,i<j→A3 F u L (nth E i)=false)
 | 0,_=>⟨h,aLs _,by simp[sF],fun _=>⟨rfl,fun i hi=>absurd hi (Nat.not_lt_zero _)⟩⟩
 | j+1,hj=>by
   obtain⟨a,b,c,d⟩:=A4 hE h j (by omega)
   have eo:=hE _ (aI (show j<E.length by omega))
   obtain⟨f,g⟩:=JT (u:=u) a eo
   simp only[sF]
   cases hc:A3 F u (sF F u E L false j).1 (nth E j)with
   | true=>
     have:=g hc
     refine⟨f,by omega,fun _=>by omega,by simp⟩
   | false=>
     have e:Le F u (sF F u E L false j).1 (nth E j)=(sF F u E L false j).1:=by unfold Le;rw[hc];rfl
     rw[e,Bool.or_false]
     refine⟨a,b,c,fun h2=>?_⟩
     obtain⟨d1,d2⟩:=d h2
     refine⟨d1,fun i hi=>?_⟩
     by_cases ci:i=j
     · rw[ci,←d1];exact hc
     · exact d2 i (by omega)
structure Pn(F:Int)(n:Nat)(E:List Edge)(u:Edge→Bool)(Z:Nat→Bool)(L:List Lab):Prop extends ET F n L where
 z:∀p,p<n→Z p=true→nth L p=⟨0,0⟩
 w:∀p,p<n→(nth L p).t<F→Z p=true∨∃e∈E,u e=true∧e.a=p∧(nth L e.b).t<F∧kC (nth L p) (kp L e)=false
theorem aaA{F:Int}{n:Nat}{u:Edge→Bool}{E:List Edge}{Z:Nat→Bool}(hE:∀e∈E,e.ok n)(hz:∀e∈E,u e=true→Z e.a=false){L:List Lab}(h:Pn F n E u Z L){e:Edge}(he:e∈E):Pn F n E u Z (Le F u L e):=by
 have I:=(JT (u:=u) h.toET (hE e he)).1
 refine⟨I,?_,?_⟩
 all_goals unfold Le at I ⊢
 all_goals cases hc:A3 F u L e with
  | false=>
    simp only[aLt,if_false]
    first | exact h.z | exact h.w
  | true=>
    rw[hc]at I
    simp only[if_true]at I ⊢
    unfold A3 at hc
    simp only[aLr,decide_eq_true_eq]at hc
    obtain⟨⟨c1,c2⟩,c3⟩:=hc
    obtain⟨ha,hb,ht,ht2⟩:=hE e he
    have ll:=h.l
    intro p hp
    rw[me]at c3
    have ct:(kp L e).t=(nth L e.b).t+e.t:=rfl
    have cr:(kp L e).r=(nth L e.b).r+1:=rfl
    first
    | intro hZ
      by_cases c:p=e.a
      · subst c;rw[hz e he c1]at hZ;cases hZ
      · rw[mV (fun h=>c h.symm)];exact h.z p hp hZ
    | intro hF
      have dec:∀q,q<n→(nth (L.set e.a (kp L e)) q).t≤(nth L q).t∧((nth (L.set e.a (kp L e)) q).t=(nth L q).t→(nth (L.set e.a (kp L e)) q).r≤(nth L q).r):=by
       intro q hq
       by_cases c:q=e.a
       · subst c
         rw[qy (by omega)]
         refine⟨by omega,fun h=>by omega⟩
       · rw[mV (fun h=>c h.symm)];exact⟨Int.le_refl _,fun _=>Int.le_refl _⟩
      have cand:∀f:Edge,f.b<n→kC (kp L f) (kp (L.set e.a (kp L e)) f)=false:=by
       intro f hf
       have:=dec f.b hf
       rw[mU]
       unfold kp at*
       simp only at*
       omega
      have ne:e.b≠e.a∨e.b=e.a:=by omega
      by_cases c:p=e.a
      · right
        subst c
        have hF':=hF
        rw[qy (by omega)]at hF' ⊢
        have db:=dec e.b hb
        refine⟨e,he,c1,rfl,by omega,?_⟩
        have:=cand e hb
        exact this
      · rw[mV (fun h=>c h.symm)]at hF ⊢
        rcases h.w p hp hF with h1 | ⟨f,hf,f1,f2,f3,f4⟩
        · exact .inl h1
        · right
          have fb:=(hE f hf).2.1
          have db:=dec f.b fb
          have cf:=cand f fb
          refine⟨f,hf,f1,f2,by omega,?_⟩
          rw[mU]at f4 cf ⊢
          omega
theorem JU{F:Int}{n:Nat}{u:Edge→Bool}{E:List Edge}{Z:Nat→Bool}(hE:∀e∈E,e.ok n)(hz:∀e∈E,u e=true→Z e.a=false){L:List Lab}(h:Pn F n E u Z L)(c:Bool):∀j,j≤E.length→Pn F n E u Z (sF F u E L c j).1
 | 0,_=>h
 | j+1,hj=>aaA hE hz (JU hE hz h c j (by omega)) (aI (by omega))
theorem yc{α:Type}(f:α→α×Bool)(mes:α→Nat)(P Q:α→Prop)(h1:∀l,P l→P (f l).1∧((f l).2=true→mes (f l).1<mes l))(h2:∀l,P l→(f l).2=false→Q (f l).1):∀(k:Nat) (l:α),P l→mes l<k→Q (ni f k l)
 | 0,l,_,h=>absurd h (Nat.not_lt_zero _)
 | k+1,l,hp,hm=>by
   obtain⟨a,b⟩:=h1 l hp
   unfold ni
   cases hc:(f l).2 with
   | true=>simp only[if_true];exact yc f mes P Q h1 h2 k _ a (by have:=b hc;omega)
   | false=>simp only[aLt,if_false];exact h2 l hp hc
structure Hm(F:Int)(n:Nat)(E:List Edge)(u:Edge→Bool)(Z:Nat→Bool)(L:List Lab):Prop extends Pn F n E u Z L where
 fx:∀e∈E,A3 F u L e=false
def JV(F:Int)(u:Edge→Bool)(E:List Edge)(L:List Lab):List Lab:=ni (fun L=>sF F u E L false E.length) (M7 F L+1) L
theorem EU{F:Int}{n:Nat}{u:Edge→Bool}{E:List Edge}{Z:Nat→Bool}(hE:∀e∈E,e.ok n)(hz:∀e∈E,u e=true→Z e.a=false){L:List Lab}(h:Pn F n E u Z L):Hm F n E u Z (JV F u E L):=by
 refine yc _ (M7 F) (Pn F n E u Z) _ (fun l hl=>⟨JU hE hz hl _ _ (aLs _),(A4 hE hl.toET _ (aLs _)).2.2.1⟩) (fun l hl hc=>?_) _ _ h (Nat.lt_succ_self _)
 obtain⟨-, -, -,d⟩:=A4 (u:=u) hE hl.toET _ (aLs _)
 obtain⟨d1,d2⟩:=d hc
 refine⟨JU hE hz hl _ _ (aLs _),fun e he=>?_⟩
 obtain⟨i,hi,rfl⟩:=List.getElem_of_mem he
 have:=d2 i hi
 rw[fw (aLc hi)]at this
 rw[d1]
 exact this
theorem EW(F:Int)(u:Edge→Bool)(A B:List Edge)(L:List Lab)(c:Bool):∀j,j≤B.length→sF F u (A++B) L c (A.length+j)=sF F u B (sF F u A L c A.length).1 (sF F u A L c A.length).2 j
 | 0,_=>by
   have:∀k,k≤A.length→sF F u (A++B) L c k=sF F u A L c k:=by
    intro k
    induction k with
    | zero=>intro _;rfl
    | succ k ih=>
      intro hk
      have e:nth (A++B) k=nth A k:=by
       unfold nth;simp only[aLl];rw[aLg (by omega)]
      simp only[sF,ih (by omega),e]
   rw[Nat.add_zero,this _ (aLs _)]
   rfl
 | j+1,hj=>by
   have e:nth (A++B) (A.length+j)=nth B j:=by
    unfold nth;simp only[aLl];rw[aLh (by omega),Nat.add_sub_cancel_left]
   rw[← Nat.add_assoc]
   simp only[sF,EW F u A B L c j (by omega),e]
theorem Hm.eqn{F:Int}{n:Nat}{E:List Edge}{u:Edge→Bool}{Z:Nat→Bool}{L:List Lab}(h:Hm F n E u Z L)(hE:∀e∈E,e.ok n){p:Nat}(hp:p<n)(hf:(nth L p).t<F)(hz:Z p=false):∃e∈E,u e=true∧e.a=p∧(nth L e.b).t<F∧nth L p=kp L e:=by
 rcases h.w p hp hf with h1 | ⟨e,he,e1,e2,e3,e4⟩
 · rw[hz]at h1;cases h1
 · refine⟨e,he,e1,e2,e3,?_⟩
   have fx:=h.fx e he
   unfold A3 at fx
   rw[e1,decide_eq_true e3,e2]at fx
   simp only[Bool.true_and]at fx
   rw[mU]at fx e4
   have:∀x y:Lab,x.t=y.t→x.r=y.r→x=y:=fun x y a b=>by
    cases x;cases y;simp only at a b;rw[a,b]
   exact this _ _ (by omega) (by omega)
theorem JW{p q:Nat→Bool}(h:∀x,p x=true→q x=true){l:List Nat}{x:Nat}(hx:x∈l)(h1:q x=true)(h2:p x=false):l.countP p<l.countP q:=by
 have le:∀l:List Nat,l.countP p≤l.countP q:=fun l=>List.countP_mono_left (fun x _ hp=>h x hp)
 induction l with
 | nil=>cases hx
 | cons a l ih=>
   rw[List.countP_cons,List.countP_cons]
   have:=le l
   rcases List.mem_cons.1 hx with rfl | hx
   · rw[h1,h2];simp;omega
   · have:=ih hx
     cases hp:p a with
     | true=>rw[h a hp];simp;omega
     | false=>simp;omega
theorem Hm.time{F:Int}{n:Nat}{E:List Edge}{u:Edge→Bool}{Z:Nat→Bool}{L:List Lab}(h:Hm F n E u Z L)(hE:∀e∈E,e.ok n){p:Nat}(hp:p<n)(hf:(nth L p).t<F):(nth L p).t≤(n:Int)*1000000:=by
 have key:∀(k:Nat) (p:Nat),p<n→(nth L p).t.toNat=k→(nth L p).t<F→(nth L p).t≤((List.range n).countP (fun x=>kC (nth L x) (nth L p)):Int)*1000000:=by
  intro k
  induction k using Nat.strongRecOn with
  | ind k ih=>
    intro p hp hk hf
    by_cases hz:Z p=true
    · rw[h.z p hp hz]
      have:0≤((List.range n).countP (fun x=>kC (nth L x) ⟨0,0⟩):Int)*1000000:=Int.mul_nonneg (Int.natCast_nonneg _) (by omega)
      exact this
    · obtain⟨e,he,e1,e2,e3,e4⟩:=h.eqn hE hp hf (by simpa using hz)
      obtain⟨o1,o2,o3,o4⟩:=hE e he
      have ct:(nth L p).t=(nth L e.b).t+e.t:=by rw[e4];rfl
      have cr:(nth L p).r=(nth L e.b).r+1:=by rw[e4];rfl
      have b0:=h.t0 _ o2
      have:=ih (nth L e.b).t.toNat (by omega) e.b o2 rfl e3
      have lt:(List.range n).countP (fun x=>kC (nth L x) (nth L e.b))<(List.range n).countP (fun x=>kC (nth L x) (nth L p)):=by
       refine JW (fun x hx=>?_) (aLu.2 o2) ?_ ?_
       · rw[me]at hx ⊢;omega
       · rw[me];omega
       · rw[mU];omega
      generalize (List.range n).countP (fun x=>kC (nth L x) (nth L e.b))=c1 at*
      generalize (List.range n).countP (fun x=>kC (nth L x) (nth L p))=c2 at*
      omega
 have a:=key _ p hp rfl hf
 have b:(List.range n).countP (fun x=>kC (nth L x) (nth L p))≤n:=by
  have:=List.countP_le_length (p:=fun x=>kC (nth L x) (nth L p)) (l:=List.range n)
  simpa using this
 generalize (List.range n).countP (fun x=>kC (nth L x) (nth L p))=c at*
 omega
theorem Po{F1 F2:Int}{n:Nat}{E1 E2:List Edge}{u1 u2:Edge→Bool}{Z1 Z2:Nat→Bool}{L1 L2:List Lab}(h1:Hm F1 n E1 u1 Z1 L1)(h2:Hm F2 n E2 u2 Z2 L2)(k1:∀e∈E1,e.ok n)(k2:∀e∈E2,e.ok n)(R:Nat→Prop)
 (hE:∀e∈E1,u1 e=true→∃f∈E2,u2 f=true∧f.a=e.a∧f.b=e.b∧f.t=e.t) (hz:∀p,p<n→R p→Z1 p=true→Z2 p=true) (hR:∀e∈E1,u1 e=true→R e.b) (hF:(n:Int)*1000000<F2):
 ∀p,p<n→R p→(nth L1 p).t<F1→(nth L2 p).t<F2∧kC (nth L1 p) (nth L2 p)=false:=by
 have key:∀(k:Nat) (p:Nat),p<n→R p→(nth L1 p).t.toNat=k→(nth L1 p).t<F1→(nth L2 p).t<F2∧kC (nth L1 p) (nth L2 p)=false:=by
  intro k
  induction k using Nat.strongRecOn with
  | ind k ih=>
    intro p hp rp hk hf
    have tm:=h1.time k1 hp hf
    by_cases hz1:Z1 p=true
    · rw[h1.z p hp hz1,h2.z p hp (hz p hp rp hz1)]
      have n0:0≤(n:Int)*1000000:=Int.mul_nonneg (Int.natCast_nonneg _) (by omega)
      exact⟨by show(0:Int)<F2;omega,rfl⟩
    · obtain⟨e,he,e1,e2,e3,e4⟩:=h1.eqn k1 hp hf (by simpa using hz1)
      obtain⟨o1,o2,o3,o4⟩:=k1 e he
      have ct:(nth L1 p).t=(nth L1 e.b).t+e.t:=by rw[e4];rfl
      have cr:(nth L1 p).r=(nth L1 e.b).r+1:=by rw[e4];rfl
      have b0:=h1.t0 _ o2
      obtain⟨i1,i2⟩:=ih (nth L1 e.b).t.toNat (by omega) e.b o2 (hR e he e1) rfl e3
      obtain⟨f,hf2,f1,f2,f3,f4⟩:=hE e he e1
      have fx:=h2.fx f hf2
      unfold A3 at fx
      rw[f1,f3,decide_eq_true i1,f2,e2]at fx
      simp only[Bool.true_and]at fx
      have c1:(kp L2 f).t=(nth L2 e.b).t+e.t:=by unfold kp;rw[f3,f4]
      have c2:(kp L2 f).r=(nth L2 e.b).r+1:=by unfold kp;rw[f3]
      rw[mU]at fx i2 ⊢
      omega
 exact fun p hp rp hf=>key _ p hp rp rfl hf
theorem aaB{F1 F2:Int}{n:Nat}{E1 E2:List Edge}{u1 u2:Edge→Bool}{Z1 Z2:Nat→Bool}{L1 L2:List Lab}(h1:Hm F1 n E1 u1 Z1 L1)(h2:Hm F2 n E2 u2 Z2 L2)(k1:∀e∈E1,e.ok n)(k2:∀e∈E2,e.ok n)(R:Nat→Prop)
 (hE:∀e∈E1,u1 e=true→∃f∈E2,u2 f=true∧f.a=e.a∧f.b=e.b∧f.t=e.t) (hE2:∀e∈E2,u2 e=true→∃f∈E1,u1 f=true∧f.a=e.a∧f.b=e.b∧f.t=e.t) (hz:∀p,p<n→R p→(Z1 p=true↔Z2 p=true)) (hR:∀e∈E1,u1 e=true→R e.b) (hR2:∀e∈E2,u2 e=true→R e.b)
 (hF1:(n:Int)*1000000<F1) (hF:(n:Int)*1000000<F2):
 ∀p,p<n→R p→((nth L1 p).t<F1↔(nth L2 p).t<F2)∧((nth L1 p).t<F1→nth L1 p=nth L2 p):=by
 intro p hp rp
 have a:=Po h1 h2 k1 k2 R hE (fun p hp rp=>(hz p hp rp).1) hR hF p hp rp
 have b:=Po h2 h1 k2 k1 R hE2 (fun p hp rp=>(hz p hp rp).2) hR2 hF1 p hp rp
 refine⟨⟨fun h=>(a h).1,fun h=>(b h).1⟩,fun h=>?_⟩
 have a2:=(a h).2
 have b2:=(b (a h).1).2
 rw[mU]at a2 b2
 have:∀x y:Lab,x.t=y.t→x.r=y.r→x=y:=fun x y a b=>by
  cases x;cases y;simp only at a b;rw[a,b]
 exact this _ _ (by omega) (by omega)
def wX(F:Int)(u:Edge→Bool)(E:List Edge)(s:List Lab×Bool):List Lab×Bool:=sF F u E s.1 s.2 E.length
theorem M8(F:Int)(u:Edge→Bool)(s:List Lab×Bool):wX F u [] s=s:=rfl
theorem EX(F:Int)(u:Edge→Bool)(A B:List Edge)(s:List Lab×Bool):wX F u (A++B) s=wX F u B (wX F u A s):=by
 unfold wX
 rw[aLv,EW F u A B s.1 s.2 B.length (aLs _)]
theorem M9(F:Int)(u:Edge→Bool)(e:Edge)(s:List Lab×Bool):wX F u [e] s=(Le F u s.1 e,s.2||A3 F u s.1 e):=rfl
theorem JX{F:Int}{n:Nat}{u:Edge→Bool}{E:List Edge}(hE:∀e∈E,e.ok n){s:List Lab×Bool}(h:ET F n s.1):ET F n (wX F u E s).1:=by
 have key:∀j,j≤E.length→ET F n (sF F u E s.1 s.2 j).1:=by
  intro j
  induction j with
  | zero=>intro _;exact h
  | succ j ih=>intro hj;exact(JT (ih (by omega)) (hE _ (aI (by omega)))).1
 exact key _ (aLs _)
def CW(u:Edge→Bool)(L:List Lab)(at':Nat)(e:Edge):Bool:=decide (e.a=at')&&u e&&decide (nth L e.b=⟨(nth L at').t-e.t,(nth L at').r-1⟩)
def Gs(u:Edge→Bool)(E:List Edge)(L:List Lab)(at':Nat):Option Edge:=E.find? (CW u L at')
def wF(Z:Nat→Bool)(u:Edge→Bool)(E:List Edge)(L:List Lab):Nat→Nat→List Edge
 | 0,_=>[]
 | k+1,p=>if Z p then []else match Gs u E L p with
   | some e=>e::wF Z u E L k e.b
   | none=>[]
def Pp:Nat→List Edge→Prop
 | _,[]=>True
 | p,e::l=>e.a=p∧Pp e.b l
def aho:Nat→List Edge→Nat
 | p,[]=>p
 | _,e::l=>aho e.b l
theorem yd{F:Int}{n:Nat}{E:List Edge}{u:Edge→Bool}{Z:Nat→Bool}{L:List Lab}(h:Hm F n E u Z L)(hE:∀e∈E,e.ok n){p:Nat}(hp:p<n)(hf:(nth L p).t<F)(hz:Z p=false):
 ∃e,Gs u E L p=some e∧e∈E∧u e=true∧e.a=p∧(nth L e.b).t<F∧(nth L e.b).t=(nth L p).t-e.t∧(nth L e.b).r=(nth L p).r-1:=by
 obtain⟨e,he,e1,e2,e3,e4⟩:=h.eqn hE hp hf hz
 have hs:CW u L p e=true:=by
  unfold CW
  rw[e1,e2,decide_eq_true rfl]
  have:nth L e.b=⟨(nth L p).t-e.t,(nth L p).r-1⟩:=by
   rw[e4]
   unfold kp
   simp only[Int.add_sub_cancel]
  rw[decide_eq_true this]
  rfl
 cases hc:Gs u E L p with
 | none=>
   have:=List.find?_eq_none.1 hc e he
   exact absurd hs this
 | some f=>
   have f1:=List.mem_of_find?_eq_some hc
   have f2:=List.find?_some hc
   unfold CW at f2
   simp only[aLr,decide_eq_true_eq]at f2
   obtain⟨⟨f3,f4⟩,f5⟩:=f2
   have ft:=(hE f f1).2.2.1
   refine⟨f,rfl,f1,f4,f3,?_,by rw[f5],by rw[f5]⟩
   rw[f5]
   simp only
   omega
structure ahp(F:Int)(n:Nat)(E:List Edge)(u:Edge→Bool)(Z:Nat→Bool)(L:List Lab)(p:Nat)(l:List Edge):Prop where
 mem:∀e∈l,e∈E∧u e=true∧e.b<n
 chain:Pp p l
 fin:Z (aho p l)=true
 sum:(l.map Edge.t).sum=(nth L p).t
 low:∀e∈l,(nth L e.b).r<(nth L p).r
 dis:(l.map Edge.b).Nodup
end Go.Ev
namespace Go.Ev.K
open Go.Ev
def bY:Fn:= { bo:=2,vars:=[0,1,3,4,5],body:=(q [w 2 (.bx v1 2),w 3 (.al [.nil,.nil,.nil,z0] [])] [] (q [m v0,u (.bs [.i 600,.i 100,.i 60,.i 1000,.i 0] 1),u (.ca N.bh 0 [] [.l 1,.l 0]),u (.bd [.nil,.nil,.nil,z0] [(3,1,.l 0)]),w 4 (.al [.nil,.nil,.nil,z0] []),u (.st l0 l1 4 [])] [] (.seq (.ite [m v0,u (.ca N.bj 0 [] [.l 0,.i 3])] [] 0 (.reg [m v0,f 0 v2,g l0,u (.ln l0),u (.ca N.aq 0 [] [.l 3,.l 0]),u (.bs [.l 0] 1),f 0 v4,u (.st l0 l1 1 [])] []) .skip) (.seq (.ite [m v0,u (.ca N.bj 0 [] [.l 0,.i 4])] [] 0 (.reg [m v0,f 0 v2,g l0,u (.ln l0),u (.ca N.aq 0 [] [.l 3,.l 0]),u (.bs [.l 0] 1),f 1 v4,u (.st l0 l1 1 [])] []) .skip) (.seq (.ite [m v0,u (.ca N.bj 0 [] [.l 0,.i 4]),m l0,y 0 true (.fa v2 1),i 1 true l0,y 2 true (.ln l0),y 3 true (.bin .gtr l0 (.i 0)),u (.pk l4 l0 (.b false))] [] 0 (.reg [m v0,f 1 v2,g l0,u (.ln l0),u (.ca N.aq 0 [] [.l 3,.l 0]),u (.bs [.l 0] 1),f 2 v4,u (.st l0 l1 1 [])] []) .skip) (q [h 4 v4,u (.st v3 l0 4 [])] [] .ret)))))),res:=[(3,some (4,true))]}
def fE:C:= (.seq (.ite [m v5,f 1 v2,g l0,u (.ln l0),u (.bin .lss l3 l0)] [] 0 .skip (.exit 0)) (.seq (.blk 1 (q [f 1 v2,g l0,m v5,a 10 l1 l0,h 10 l0,w 6 (.al [z0,z0,z0,z0,z1,z1,z0,z0,z0,z0] []),u (.st l0 l1 10 [])] [] (.seq (.ite [f 0 v6,g l0,m v1,u (.bin .eql l1 l0),m l0,y 0 true (.ld v2 2 true),e 1 true v5,y 2 true (.ca N.c9 0 [] [.l 1,.l 0,.b false]),y 3 true (.bin .geq l0 (.i 0)),u (.pk l4 l0 (.b false))] [] 0 (.reg [m v4,h 2 v2,m v5,u (.ca N.c9 0 [] [.l 1,.l 0,.b true]),u (.mx [.l 3,.l 0]),x 4 l0] []) .skip) (.ite [f 1 v6,g l0,m v1,u (.bin .eql l1 l0),m l0,y 0 true (.ld v2 2 true),e 1 true v5,y 2 true (.ca N.c9 0 [] [.l 1,.l 0,.b true]),y 3 true (.bin .geq l0 (.i 0)),u (.pk l4 l0 (.b false))] [] 0 (.reg [m v4,h 2 v2,m v5,u (.ca N.c9 0 [] [.l 1,.l 0,.b false]),u (.mx [.l 3,.l 0]),x 4 l0] []) .skip)))) (.reg [m v5,u (.bin .add l0 (.i 1)),x 5 l0] [])))
def uk:C:= .loop true [0,3,6] K.fE
def gV:Fn:= { bo:=2,vars:=[0,1,2,4,5,6,7],body:=(q [w 2 (.bx v0 2),x 3 (.i 0)] [] (q [x 4 (.i 0)] [] (.seq (q [x 5 (.i 0)] [] (.blk 0 K.uk)) (q [m v4,x 3 l0] [] .ret)))),res:=[(3,none)]}
def fP:Fn:= { bo:=2,vars:=[0,1,2,3,4,5],body:=(q [w 2 (.bx v0 2),w 3 (.bx v1 4),x 4 (.b false)] [] (q [f 0 v2,g l0,u (.ln l0),u (.bin .sub l0 (.i 1)),x 5 l0] [] (q [h 2 v2,u (.ca N.eE 0 [] [.l 0]),m l0,y 0 true (.fa v3 0),i 1 true l0,e 2 true v5,y 3 true (.ca N.cz 0 [] [.l 1,.i 0,.l 0]),u (.pk l4 l0 (.b false)),m l0,y 0 true (.fa v3 1),i 1 true l0,e 2 true v5,y 3 true (.ca N.cz 0 [] [.l 1,.i 0,.l 0]),u (.pk l4 l0 (.b false)),m l0,y 0 true (.fa v3 2),i 1 true l0,y 2 true (.fa v2 1),i 3 true l0,y 4 true (.ln l0),y 5 true (.bin .sub l0 (.i 1)),y 6 true (.ca N.cz 0 [] [.l 4,.i 0,.l 0]),u (.pk l7 l0 (.b false)),m l0,y 0 true (.fa v3 3),i 1 true l0,y 2 true (.ca N.gn 0 [] [.l 0,.i 0,.i 2147483648]),u (.pk l3 l0 (.b false)),x 4 l0] [] .ret))),res:=[(4,none)]}
end Go.Ev.K
namespace Go.Ev
class gg [Lib]:Prop where
 iW:Lib.fs N.bY=some K.bY
 qz:Lib.fs N.gV=some K.gV
 oG:Lib.fs N.fP=some K.fP
namespace K
variable [Lib] [gg]
theorem iW:Lib.fs N.bY=some K.bY:=gg.iW
theorem qz:Lib.fs N.gV=some K.gV:=gg.qz
theorem oG:Lib.fs N.fP=some K.fP:=gg.oG
end K
end Go.Ev
namespace Go.Ev.K
open Go.Ev
def dm:C:= (.seq (.ite [m v11,f 1 v3,g l0,u (.ln l0),u (.bin .lss l3 l0)] [] 0 .skip (.exit 2)) (.seq (.blk 3 (q [h 2 v3,m v11,m v10,u (.ca N.dg 0 [] [.l 2,.l 1,.l 0]),m l0,u (.ex l0 0),u (.ex l1 1),x 12 l1,x 13 l1] [] (.seq (.ite [m v13,u (.bin .lss l0 (.i 0)),m l0,y 0 false (.fa v4 2),i 1 false l0,e 2 false v11,y 3 false (.ca N.cH 0 [] [.l 1,.l 0]),u (.pk l4 (.b true) l0),m l0,y 0 false (.fa v4 1),i 1 false l0,e 2 false v12,y 3 false (.ca N.cH 0 [] [.l 1,.l 0]),u (.pk l4 (.b true) l0),m l0,e 0 false v8,e 1 false v12,y 2 false (.ia l1 l0 2),y 3 false (.fa l0 0),i 4 false l0,y 5 false (.bin .geq l0 (.i 1099511627776)),u (.pk l6 (.b true) l0)] [] 0 (.exit 3) .skip) (.ite [m v8,m v12,a 2 l1 l0,f 0 l0,g l0,m v13,u (.bin .add l1 l0),m v8,m v10,a 2 l1 l0,f 0 l0,g l0,u (.bin .eql l5 l0),m l0,e 0 true v8,e 1 true v12,y 2 true (.ia l1 l0 2),y 3 true (.fa l0 1),i 4 true l0,y 5 true (.bin .add l0 (.i 1)),e 6 true v8,e 7 true v10,y 8 true (.ia l1 l0 2),y 9 true (.fa l0 1),i 10 true l0,y 11 true (.bin .eql l5 l0),u (.pk (.l 12) l0 (.b false))] [] 0 (q [m v9,m v11,u (.bs [.l 0] 1),u (.app l2 l0 true 1),m v12,x 9 l1,x 10 l1] [] (.exit 2)) .skip)))) (.reg [m v11,u (.bin .add l0 (.i 1)),x 11 l0] [])))
def rW:C:= .loop true [0,1,5,6,7,12,13] K.dm
def fU:C:= (.seq (.ite [h 2 v3,h 4 v4,m v10,u (.ca N.df 0 [] [.l 2,.l 1,.l 0]),u (.un .not l0)] [] 0 .skip (.exit 0)) (.blk 1 (q [x 11 (.i 0)] [] (.blk 2 K.rW))))
def rX:C:= .loop true [0,1,5,6,7,11,12,13] K.fU
def dQ:Fn:= { bo:=3,vars:=[0,1,2,3,4,6,7,8,9,10,11,12,13,14],body:=(q [w 3 (.bx v0 2),w 4 (.bx v1 4),w 5 (.mv (.c (.nil))),x 6 (.i 0),x 7 (.b false)] [] (.seq (.ite [h 2 v3,h 4 v4,u (.ca N.dX 0 [] [.l 1,.l 0]),u (.un .not l0),m l0,e 0 false v2,y 1 false (.bin .lss l0 (.i 0)),u (.pk l2 (.b true) l0),m l0,e 0 false v2,y 1 false (.fa v3 0),i 2 false l0,y 3 false (.ln l0),y 4 false (.bin .geq l3 l0),u (.pk l5 (.b true) l0)] [] 0 (q [w 5 (.mv (.c (.nil))),x 6 (.i 0),x 7 (.b false)] [] .ret) .skip) (.seq (.ite [h 2 v3,h 4 v4,m v2,u (.ca N.df 0 [] [.l 2,.l 1,.l 0])] [] 0 (q [w 5 (.mv (.c (.nil))),x 6 (.i 0),x 7 (.b true)] [] .ret) .skip) (q [h 2 v3,h 4 v4,u (.ca N.dJ 0 [] [.l 1,.l 0]),x 8 l0] [] (.seq (.ite [m v8,m v2,a 2 l1 l0,f 0 l0,g l0,u (.bin .geq l0 (.i 1099511627776))] [] 0 (q [w 5 (.mv (.c (.nil))),x 6 (.i 0),x 7 (.b false)] [] .ret) .skip) (q [w 9 (.nw 1)] [] (.seq (q [m v2,x 10 l0] [] (.blk 0 K.rX)) (q [m v9,m v8,m v2,a 2 l1 l0,f 0 l0,g l0,x 5 l5,x 6 l1,x 7 (.b true)] [] .ret)))))))),res:=[(5,none),(6,none),(7,none)]}
def c9:Fn:= { bo:=3,vars:=[0,1,2,3,6],body:=(q [w 3 (.bx v0 2),x 4 (.i 0)] [] (q [h 2 v3,m v1,m v2,u (.ca N.bH 0 [] [.l 2,.l 1,.l 0,.i 2,.i 3,.i 4]),x 4 l0] [] .ret)),res:=[(4,none)]}
def dX:Fn:= { bo:=2,vars:=[0,1,2,3,4],body:=(q [w 2 (.bx v0 2),w 3 (.bx v1 4),x 4 (.b false)] [] (q [h 2 v2,u (.ca N.dy 0 [] [.l 0]),u (.bin .eql l0 (.i 0)),m l0,y 0 true (.fa v3 0),i 1 true l0,y 2 true (.fa v2 0),i 3 true l0,y 4 true (.ln l0),y 5 true (.ca N.fe 0 [] [.l 3,.l 0]),u (.pk l6 l0 (.b false)),m l0,y 0 true (.fa v3 1),i 1 true l0,y 2 true (.fa v2 0),i 3 true l0,y 4 true (.ln l0),y 5 true (.ca N.fe 0 [] [.l 3,.l 0]),u (.pk l6 l0 (.b false)),m l0,y 0 true (.fa v3 2),i 1 true l0,y 2 true (.fa v2 1),i 3 true l0,y 4 true (.ln l0),y 5 true (.ca N.fe 0 [] [.l 3,.l 0]),u (.pk l6 l0 (.b false)),m l0,y 0 true (.fa v3 3),i 1 true l0,y 2 true (.bin .geq l0 (.i 0)),u (.pk l3 l0 (.b false)),m l0,y 0 true (.fa v3 3),i 1 true l0,y 2 true (.bin .leq l0 (.i 2147483648)),u (.pk l3 l0 (.b false)),x 4 l0] [] .ret)),res:=[(4,none)]}
def df:Fn:= { bo:=3,vars:=[0,1,2,3,4,6],body:=(q [w 3 (.bx v0 2),w 4 (.bx v1 4),x 5 (.b false)] [] (q [f 0 v3,g l0,m v2,a 2 l1 l0,f 1 l0,g l0,m l0,y 0 false (.fa v4 0),i 1 false l0,e 2 false v2,y 3 false (.ca N.cH 0 [] [.l 1,.l 0]),u (.pk l4 (.b true) l0),x 5 l0] [] .ret)),res:=[(5,none)]}
def dg:Fn:= { bo:=3,vars:=[0,1,2,3,6,7,8],body:=(q [w 3 (.bx v0 2),x 4 (.i 0),x 5 (.i 0)] [] (q [f 1 v3,g l0,m v1,a 10 l1 l0,h 10 l0,w 6 (.al [z0,z0,z0,z0,z1,z1,z0,z0,z0,z0] []),u (.st l0 l1 10 [])] [] (.seq (.ite [f 0 v6,g l0,m v2,u (.bin .eql l1 l0)] [] 0 (q [f 1 v6,g l0,h 2 v3,m v1,u (.ca N.c9 0 [] [.l 1,.l 0,.b false]),x 4 l3,x 5 l1] [(1,5)] .ret) .skip) (.seq (.ite [f 1 v6,g l0,m v2,u (.bin .eql l1 l0)] [] 0 (q [f 0 v6,g l0,h 2 v3,m v1,u (.ca N.c9 0 [] [.l 1,.l 0,.b true]),x 4 l3,x 5 l1] [(1,5)] .ret) .skip) (q [x 4 (.i 0),w 5 (.mv (.i (-1)))] [] .ret))))),res:=[(4,none),(5,none)]}
def oH:C:= (.its [u (.bin .lss v9 v8)] [] 0 .skip (.exit 0) (.seq (.blk 1 (q [m v9,a 10 v7 v9,h 10 l0,w 6 (.al [z0,z0,z0,z0,z1,z1,z0,z0,z0,z0] []),x 5 l3,u (.st l1 l2 10 [])] [] (.seq (.ite [f 1 v6,g l0,m v1,u (.bin .eql l1 l0)] [] 0 (.reg [m v4,h 2 v2,m v5,u (.ca N.fL 0 [] [.l 1,.l 0,.b false]),u (.mx [.l 3,.l 0]),x 4 l0] []) .skip) (.ite [f 0 v6,g l0,m v1,u (.bin .eql l1 l0)] [] 0 (.reg [m v4,h 2 v2,m v5,u (.ca N.fL 0 [] [.l 1,.l 0,.b true]),u (.mx [.l 3,.l 0]),x 4 l0] []) .skip)))) (.reg [u (.bin .add v9 (.i 1)),x 9 l0] [])))
def wG:C:= .loop true [0,3,5,6] K.oH
def jh:Fn:= { bo:=2,vars:=[0,1,2,4,5,6,7,9,10,11],body:=(q [w 2 (.bx v0 2),x 3 (.i 0)] [] (q [x 4 (.i 0)] [] (.seq (q [f 1 v2,w 7 (.ld l0 1 false),w 8 (.ln l0),x 9 (.i 0)] [] (.blk 0 K.wG)) (q [m v4,x 3 l0] [] .ret)))),res:=[(3,none)]}
def gW:Fn:= { bo:=2,vars:=[0,1,4],body:=(q [w 2 (.mv (.c (.nil)))] [] (q [m v0,m v1,u (.ca N.fJ 0 [] [.l 1,.l 0]),x 2 l0] [] .ret)),res:=[(2,none)]}
def cW:C:= (.seq (.ite [m v4,m v3,u (.ln l0),u (.bin .lss l2 l0)] [] 0 .skip (.exit 2)) (.seq (.blk 3 (.ite [m v3,m v4,a 1 l1 l0,g l0,m v3,m v4,u (.bin .sub l0 (.i 1)),a 1 l2 l0,g l0,u (.bin .neq l5 l0)] [] 0 (q [m v0,m v2,m v3,m v4,a 1 l1 l0,g l0,a 1 l5 l4,u (.st l0 l1 1 [])] [] (.reg [m v2,u (.bin .add l0 (.i 1)),x 2 l0] [])) .skip)) (.reg [m v4,u (.bin .add l0 (.i 1)),x 4 l0] [])))
def gZ:C:= .loop true [1] K.cW
def bJ:C:= (.seq (.ite [m v2,m v0,u (.ln l0),u (.bin .lss l2 l0)] [] 0 .skip (.exit 0)) (.seq (.blk 1 (.ite [m v0,m v2,a 1 l1 l0,g l0,m v0,m v2,u (.bin .sub l0 (.i 1)),a 1 l2 l0,g l0,u (.bin .eql l5 l0)] [] 0 (q [m v0,m v2,u (.sc l1 (some l0) none 1),x 3 l0] [] (.seq (q [x 4 (.i 1)] [] (.blk 2 K.gZ)) (q [m v0,m v2,u (.sc l1 (some l0) none 1),u (.clr l0 (.int .i64 (0)) 1)] [] (q [m v0,m v2,u (.pop l1 l0),x 1 l0] [] .ret)))) .skip)) (.reg [m v2,u (.bin .add l0 (.i 1)),x 2 l0] [])))
def eS:C:= .loop true [1,3,4] K.bJ
def aB:Fn:= { bo:=1,vars:=[0,2,3,4,5],body:=(q [w 1 (.mv (.c (.nil)))] [] (.seq (.ite [m v0,u (.ln l0),u (.bin .lss l0 (.i 2))] [] 0 (q [m v0,x 1 l0] [] .ret) .skip) (.seq (q [x 2 (.i 1)] [] (.blk 0 K.eS)) (q [m v0,x 1 l0] [] .ret)))),res:=[(1,none)]}
def jK:C:= (.seq (.ite [m v6,f 0 v2,g l0,u (.ln l0),u (.bin .lss l3 l0)] [] 0 .skip (.exit 0)) (.seq (.blk 1 (q [u (.bd [z0,z0] [(0,1,.i 1099511627776),(1,1,.i 0)]),w 7 (.al [z0,z0] []),u (.st l0 l1 2 [])] [] (.seq (.ite [h 2 v2,h 4 v3,m v6,u (.ca N.df 0 [] [.l 2,.l 1,.l 0]),m l0,y 0 true (.fa v3 1),i 1 true l0,e 2 true v6,y 3 true (.ca N.cH 0 [] [.l 1,.l 0]),y 4 true (.un .not l0),u (.pk l5 l0 (.b false))] [] 0 (.reg [f 0 v7,u (.st l0 (.i 0) 1 [])] []) .skip) (.reg [m v5,h 2 v7,u (.bs [.l 0] 2),u (.app l2 l0 true 2),x 5 l0] [])))) (.reg [m v6,u (.bin .add l0 (.i 1)),x 6 l0] [])))
def kq:C:= .loop true [0,1,4,7,8,9,10,11,12,13] K.jK
def cV:C:= (.seq (.ite [m v10,f 1 v2,g l0,u (.ln l0),u (.bin .lss l3 l0)] [] 0 .skip (.exit 6)) (.seq (.blk 7 (q [h 2 v2,m v10,m v9,u (.ca N.dg 0 [] [.l 2,.l 1,.l 0]),m l0,u (.ex l0 0),u (.ex l1 1),x 11 l1,x 12 l1] [] (.seq (.ite [m v12,u (.bin .lss l0 (.i 0)),m l0,y 0 false (.fa v3 2),i 1 false l0,e 2 false v10,y 3 false (.ca N.cH 0 [] [.l 1,.l 0]),u (.pk l4 (.b true) l0),m l0,y 0 false (.fa v3 1),i 1 false l0,e 2 false v11,y 3 false (.ca N.cH 0 [] [.l 1,.l 0]),u (.pk l4 (.b true) l0),m l0,e 0 false v5,e 1 false v11,y 2 false (.ia l1 l0 2),y 3 false (.fa l0 0),i 4 false l0,y 5 false (.bin .geq l0 (.i 1099511627776)),u (.pk l6 (.b true) l0)] [] 0 (.exit 7) .skip) (q [w 13 (.al [z0,z0] []),m v5,m v11,a 2 l1 l0,f 0 l0,g l0,m v12,u (.bin .add l1 l0),m v5,m v11,a 2 l1 l0,f 1 l0,g l0,u (.bin .add l0 (.i 1)),u (.bd [z0,z0] [(0,1,.l 6),(1,1,.l 0)]),u (.st (.l 14) l0 2 [])] [] (.ite [h 2 v13,m v5,m v9,a 2 l1 l0,h 2 l0,u (.ca N.dK 0 [] [.l 4,.l 0])] [] 0 (.reg [m v5,m v9,h 2 v13,a 2 l2 l1,u (.st l0 l1 2 []),x 8 (.b true)] []) .skip))))) (.reg [m v10,u (.bin .add l0 (.i 1)),x 10 l0] [])))
def oI:C:= .loop true [0,1,4,6,7,11,12,13] K.cV
def iq:C:= (.seq (.ite [m v9,f 0 v2,g l0,u (.ln l0),u (.bin .lss l3 l0)] [] 0 .skip (.exit 4)) (.seq (.blk 5 (.seq (.ite [h 2 v2,h 4 v3,m v9,u (.ca N.df 0 [] [.l 2,.l 1,.l 0])] [] 0 (.exit 5) .skip) (q [x 10 (.i 0)] [] (.blk 6 K.oI)))) (.reg [m v9,u (.bin .add l0 (.i 1)),x 9 l0] [])))
def oJ:C:= .loop true [0,1,4,6,7,10,11,12,13] K.iq
def jL:C:= (.seq (.ite [m v8] [] 0 .skip (.exit 2)) (.blk 3 (q [x 8 (.b false)] [] (q [x 9 (.i 0)] [] (.blk 4 K.oJ)))))
def oK:C:= .loop true [0,1,4,6,7,9,10,11,12,13] K.jL
def dJ:Fn:= { bo:=2,vars:=[0,1,2,3,4,5,6,7,8,9,10,11,12,13],body:=(q [w 2 (.bx v0 2),w 3 (.bx v1 4),w 4 (.mv (.c (.nil)))] [] (q [w 5 (.nw 2)] [] (.seq (q [x 6 (.i 0)] [] (.blk 0 K.kq)) (.seq (q [x 8 (.b true)] [] (.blk 2 K.oK)) (q [m v5,x 4 l0] [] .ret))))),res:=[(4,none)]}
def jZ:C:= (.seq (.ite [m v3,m v0,u (.ln l0),u (.bin .lss l2 l0),m l0,e 0 true v0,e 1 true v3,y 2 true (.ia l1 l0 1),i 3 true l0,e 4 true v1,y 5 true (.bin .lss l1 l0),u (.pk l6 l0 (.b false))] [] 0 .skip (.exit 0)) (.blk 1 (.reg [m v3,u (.bin .add l0 (.i 1)),x 3 l0] [])))
def uo:C:= .loop true [2] K.jZ
def fJ:Fn:= { bo:=2,vars:=[0,1,4,5],body:=(q [w 2 (.mv (.c (.nil)))] [] (q [x 3 (.i 0)] [] (.seq (.blk 0 K.uo) (.seq (.ite [m v3,m v0,u (.ln l0),u (.bin .lss l2 l0),m l0,e 0 true v0,e 1 true v3,y 2 true (.ia l1 l0 1),i 3 true l0,e 4 true v1,y 5 true (.bin .eql l1 l0),u (.pk l6 l0 (.b false))] [] 0 (q [m v0,u (.app (.c (.nil)) l0 true 1),x 2 l0] [] .ret) .skip) (q [m v0,m v3,u (.sc l1 none (some l0) 1),u (.app (.c (.nil)) l0 true 1),m v1,u (.bs [.l 0] 1),u (.app l2 l0 true 1),m v0,m v3,u (.sc l1 (some l0) none 1),u (.app l3 l0 true 1),x 2 l0] [(5,0),(9,0),(9,4)] .ret))))),res:=[(2,none)]}
def fL:Fn:= { bo:=3,vars:=[0,1,2,3,6],body:=(q [w 3 (.bx v0 2),x 4 (.i 0)] [] (.seq (.ite [h 2 v3,u (.ca N.eE 0 [] [.l 0]),u (.un .not l0),m l0,e 0 false v1,y 1 false (.bin .lss l0 (.i 0)),u (.pk l2 (.b true) l0),m l0,e 0 false v1,y 1 false (.fa v3 1),i 2 false l0,y 3 false (.ln l0),y 4 false (.bin .geq l3 l0),u (.pk l5 (.b true) l0)] [] 0 (q [w 4 (.mv (.i (-1)))] [] .ret) .skip) (q [h 2 v3,m v1,m v2,u (.ca N.gX 0 [] []),u (.ca N.dt 0 [] [.l 3,.l 2,.l 1,.l 0]),x 4 l0] [(0,4)] .ret))),res:=[(4,none)]}
def dK:Fn:= { bo:=2,vars:=[0,1,2,3,4],body:=(q [w 2 (.bx v0 2),w 3 (.bx v1 2),x 4 (.b false)] [] (q [f 0 v2,g l0,f 0 v3,g l0,u (.bin .lss l2 l0),m l0,y 0 false (.fa v2 0),i 1 false l0,y 2 false (.fa v3 0),i 3 false l0,y 4 false (.bin .eql l2 l0),e 5 false l0,y 0 true (.fa v2 1),i 1 true l0,y 2 true (.fa v3 1),i 3 true l0,y 4 true (.bin .lss l2 l0),y 11 false (.pk l5 l0 (.b false)),u (.pk (.l 12) (.b true) l0),x 4 l0] [] .ret)),res:=[(4,none)]}
end Go.Ev.K
namespace Go.Ev
class eu [Lib]:Prop where
 oL:Lib.fs N.dQ=some K.dQ
 oM:Lib.fs N.c9=some K.c9
 mW:Lib.fs N.dX=some K.dX
 oN:Lib.fs N.df=some K.df
 mY:Lib.fs N.dg=some K.dg
 tz:Lib.fs N.jh=some K.jh
 qA:Lib.fs N.gW=some K.gW
 cD:Lib.fs N.aB=some K.aB
 lG:Lib.fs N.dJ=some K.dJ
 qB:Lib.fs N.fJ=some K.fJ
 qC:Lib.fs N.fL=some K.fL
 lH:Lib.fs N.dK=some K.dK
namespace K
variable [Lib] [eu]
theorem oL:Lib.fs N.dQ=some K.dQ:=eu.oL
theorem oM:Lib.fs N.c9=some K.c9:=eu.oM
theorem mW:Lib.fs N.dX=some K.dX:=eu.mW
theorem oN:Lib.fs N.df=some K.df:=eu.oN
theorem mY:Lib.fs N.dg=some K.dg:=eu.mY
theorem tz:Lib.fs N.jh=some K.jh:=eu.tz
theorem qA:Lib.fs N.gW=some K.gW:=eu.qA
theorem cD:Lib.fs N.aB=some K.aB:=eu.cD
theorem lG:Lib.fs N.dJ=some K.dJ:=eu.lG
theorem qB:Lib.fs N.fJ=some K.fJ:=eu.qB
theorem qC:Lib.fs N.fL=some K.fL:=eu.qC
theorem lH:Lib.fs N.dK=some K.dK:=eu.lH
end K
end Go.Ev
namespace Go.Ev.K
open Go.Ev
def gX:Fn:= { bo:=0,vars:=[0],body:=(q [w 0 (.al [z0,z0,z0] [])] [] (q [u (.bd [z0,z0,z0] [(0,1,.i 2),(1,1,.i 3),(2,1,.i 4)]),u (.st v0 l0 3 [])] [] .ret)),res:=[(0,some (3,true))]}
end Go.Ev.K
namespace Go.Ev
class gH [Lib]:Prop where
 qD:Lib.fs N.gX=some K.gX
namespace K
variable [Lib] [gH]
theorem qD:Lib.fs N.gX=some K.gX:=gH.qD
end K
end Go.Ev
namespace Go.Ev
open Go
variable [Lib] [aZ] [bc] [cG] [cJ] [eC] [cL] [cM] [dG] [dE] [bI] [bM] [cA] [cB] [gw] [gz] [gg] [eu] [gH]
structure Esc where
 safe:List Int
 bad:List Int
 shut:List Int
 dN:Int
instance : Dat Esc := ⟨⟨[], [], [], 0⟩⟩
abbrev Esc.e(e:Esc):T:= .agg [tL e.safe,tL e.bad,tL e.shut,tI e.dN]
structure Esc.ok(m:aK)(e:Esc):Prop where
 s:ud e.safe m.aa.length=true
 b:ud e.bad m.aa.length=true
 h:ud e.shut m.roads.length=true
 l0:0≤e.dN
 l1:e.dN≤2147483648
theorem Esc.ok.sl{m:aK}{e:Esc}(hm:m.ok)(h:e.ok m):e.safe.length≤64:=by
 have:=mJ h.s;have:=hm.np;omega
theorem Esc.ok.bl{m:aK}{e:Esc}(hm:m.ok)(h:e.ok m):e.bad.length≤64:=by
 have:=mJ h.b;have:=hm.np;omega
theorem Esc.ok.hl{m:aK}{e:Esc}(hm:m.ok)(h:e.ok m):e.shut.length≤128:=by
 have:=mJ h.h;have:=hm.nr;omega
abbrev dZ(m:aK)(k:Nat)(back:Bool):Int:=wq m k back 2 3 4
theorem Pq{l s:Int}(l0:1≤l)(l1:l≤100000)(h:s=2∨s=3∨s=4):1≤(10*l+s-1).tdiv s∧(10*l+s-1).tdiv s≤500001:=by
 rcases h with rfl | rfl | rfl
 · rw[Int.tdiv_eq_ediv_of_nonneg (by omega)];omega
 · rw[Int.tdiv_eq_ediv_of_nonneg (by omega)];omega
 · rw[Int.tdiv_eq_ediv_of_nonneg (by omega)];omega
theorem eV{m:aK}(h:m.ok)(k:Nat)(hk:k<m.roads.length)(back:Bool):dZ m k back= -1∨1≤dZ m k back∧dZ m k back≤500001:=by
 have l0:=(h.rs _ (aI hk)).l0
 have l1:=(h.rs _ (aI hk)).l1
 unfold dZ wq
 simp only
 split
 · exact .inl rfl
 · refine .inr (Pq l0 l1 ?_)
   repeat' split
   all_goals first | exact .inl rfl | exact .inr (.inl rfl) | exact .inr (.inr rfl)
theorem Na:aG 0 N.gX [] []=some (.t (.agg [tI 2,tI 3,tI 4]),[]):=by
 refine ay K.qD rfl ?_
 simp(disch:=omega)only[go_sem,K.gX,↓reduceIte,reduceAdd,reduceSub]
theorem qE{m:aK}(h:m.ok)(k:Nat)(hk:k<m.roads.length)(back:Bool):aG 0 N.fL [.t m.e,I k,B back] []=some (I (dZ m k back),[]):=by
 refine ay K.qC rfl ?_
 have hv:=ow h
 have hw:=SC h k hk back 2 3 4 (by omega) (by omega) (by omega) (by omega) (by omega) (by omega)
 have hs:=Na
 have nr:=h.nr
 obtain⟨aa,roads⟩:=m
 simp only at*
 simp(disch:=omega)only[go_sem,K.fL,↓reduceIte,hv,hw,hs,reduceAdd,reduceSub]
theorem vf{m:aK}(h:m.ok)(k:Nat)(hk:k<m.roads.length)(back:Bool):aG 0 N.c9 [.t m.e,I k,B back] []=some (I (dZ m k back),[]):=by
 refine ay K.oM rfl ?_
 have hw:=IB h k hk back 2 3 4 (by omega) (by omega) (by omega) (by omega) (by omega) (by omega)
 simp(disch:=omega)only[go_sem,K.c9,↓reduceIte,hw,reduceAdd,reduceSub]
theorem uq{m:aK}(hm:m.ok){e:Esc}(he:e.ok m):aG 0 N.fP [.t m.e,.t e.e] []=some (B true,[]):=by
 refine ay K.oG rfl ?_
 have hv:=ow hm
 have r1:=om e.safe 0 (m.aa.length-1) (by have:=he.sl hm;omega)
 have r2:=om e.bad 0 (m.aa.length-1) (by have:=he.bl hm;omega)
 have r3:=om e.shut 0 (m.roads.length-1) (by have:=he.hl hm;omega)
 rw[tf,he.s]at r1
 rw[tf,he.b]at r2
 rw[tf,he.h]at r3
 have r4:=IA e.dN 0 2147483648
 have:=he.l0
 have:=he.l1
 have np:=hm.np
 have nr:=hm.nr
 rw[decide_eq_true (by omega)]at r4
 obtain⟨aa,roads⟩:=m
 obtain⟨safe,bad,shut,dN⟩:=e
 simp only at*
 simp(disch:=omega)only[go_sem,K.fP,↓reduceIte,hv,r1,r2,r3,r4,reduceAdd,reduceSub]
theorem EY{m:aK}(hm:m.ok){e:Esc}(he:e.ok m):aG 0 N.dX [.t m.e,.t e.e] []=some (B true,[]):=by
 refine ay K.mW rfl ?_
 have hv:=yO hm
 have r1:=Ea e.safe m.aa.length (by have:=he.sl hm;omega)
 have r2:=Ea e.bad m.aa.length (by have:=he.bl hm;omega)
 have r3:=Ea e.shut m.roads.length (by have:=he.hl hm;omega)
 rw[he.s]at r1
 rw[he.b]at r2
 rw[he.h]at r3
 have:=he.l0
 have:=he.l1
 have np:=hm.np
 have nr:=hm.nr
 obtain⟨aa,roads⟩:=m
 obtain⟨safe,bad,shut,dN⟩:=e
 simp only at*
 simp(disch:=omega)only[go_sem,K.dX,↓reduceIte,hv,r1,r2,r3,reduceAdd,reduceSub]
def sfF(m:aK)(e:Esc)(p:Nat):Bool:=(nth m.aa p).surf||decide ((p:Int)∈e.safe)
def bdF(e:Esc)(p:Nat):Bool:=decide ((p:Int)∈e.bad)
theorem pv{m:aK}(hm:m.ok){e:Esc}(hl:e.safe.length≤1000)(p:Nat)(hp:p<m.aa.length):aG 0 N.df [.t m.e,.t e.e,I p] []=some (B (sfF m e p),[]):=by
 refine ay K.oN rfl ?_
 have hh:=oe e.safe p (by omega)
 have np:=hm.np
 unfold sfF
 cases hx:(nth m.aa p).surf with
 | true=>simp(disch:=omega)only[go_sem,K.df,↓reduceIte,hx,Bool.true_or,reduceAdd,reduceSub]
 | false=>
   simp(disch:=omega)only[go_sem,K.df,↓reduceIte,hx,hh,Bool.false_or,reduceAdd,reduceSub]
def ed(m:aK)(r p:Nat):Int×Int:=
 if(nth m.roads r).frm=p then((nth m.roads r).to,dZ m r false)
 else if(nth m.roads r).to=p then((nth m.roads r).frm,dZ m r true)else(0, -1)
theorem wH{m:aK}(hm:m.ok)(r:Nat)(hr:r<m.roads.length)(p:Nat)(hp:p<m.aa.length):aG 0 N.dg [.t m.e,I r,I p] []=some (.tup [I (ed m r p).1,I (ed m r p).2],[]):=by
 refine ay K.mY rfl ?_
 have s1:=vf hm r hr false
 have s2:=vf hm r hr true
 have nr:=hm.nr
 have ex:(m.roads.map Road.e)[r]?=some (nth m.roads r).e:=bz _ hr
 unfold ed
 generalize dZ m r false=w1 at*
 generalize dZ m r true=w2 at*
 generalize nth m.roads r=x at*
 obtain⟨frm,to,len,ar,walk,closed,rl,rh,ll,lh⟩:=x
 simp only at*
 by_cases c1:frm=p
 · simp(disch:=omega)only[go_sem,K.dg,↓reduceIte,ex,s1,s2,c1,reduceAdd,reduceSub]
 · by_cases c2:to=p
   · simp(disch:=omega)only[go_sem,K.dg,↓reduceIte,ex,s1,s2,c1,c2,reduceAdd,reduceSub]
   · simp(disch:=omega)only[go_sem,K.dg,↓reduceIte,ex,s1,s2,c1,c2,reduceAdd,reduceSub]
theorem Gt(x y:Lab):aG 0 N.dK [.t (.agg [tI x.t,tI x.r]),.t (.agg [tI y.t,tI y.r])] []=some (B (kC x y),[]):=by
 refine ay K.lH rfl ?_
 obtain⟨a,b⟩:=x
 obtain⟨c,d⟩:=y
 unfold kC
 simp only
 by_cases c1:a<c<;>by_cases c2:a=c<;>by_cases c3:b<d
 all_goals simp(disch:=omega)only[go_sem,K.dK,↓reduceIte,c1,c2,c3,decide_true,decide_false,Bool.or_true,Bool.or_false,Bool.and_true,Bool.and_false,Bool.true_or,Bool.false_or,Bool.and_self,Bool.or_self,Int.lt_irrefl,reduceAdd,reduceSub]
abbrev Edge.e(e:Edge):T:= .agg [tI e.r,tI e.a,tI e.b,tI e.t]
abbrev Lab.e(x:Lab):T:= .agg [tI x.t,tI x.r]
abbrev af6(L:List Lab):Obj:= .arr 2 false 0 ((L.map Lab.e).map .t)
def uB(sf bd:List Bool)(e:Edge):Bool:= !(nth sf e.a)&& !(nth bd e.b)
def CY(F:Int)(sf:List Bool)(n j:Nat):List Lab:=(List.range n).map fun p=>if decide (p<j)&& !(nth sf p)then⟨F,0⟩else⟨0,0⟩
theorem JY(F:Int)(sf:List Bool)(n j:Nat):(CY F sf n j).length=n:=by simp[CY]
theorem mg(F:Int)(sf:List Bool)(n j:Nat){p:Nat}(hp:p<n):nth (CY F sf n j) p=if decide (p<j)&& !(nth sf p)then⟨F,0⟩else⟨0,0⟩:=by
 refine fw ?_
 unfold CY
 rw[aLn,aLp hp]
 rfl
theorem TL(L:List Lab)(j:Nat)(a b:Int):(List.map D.t (List.map Lab.e L)).set j (D.t (T.agg [T.int .i64 a,T.int .i64 b]))=List.map D.t (List.map Lab.e (L.set j ⟨a,b⟩)):=by
 simp only[List.map_set]
abbrev BO:Int:=1152921504606846976
theorem TM(F:Int)(hF:0≤F)(sf:List Bool)(n j:Nat):ET F n (CY F sf n j) where
 l:=JY F sf n j
 t0:=fun p hp=>by rw[mg F sf n j hp];split<;>simp<;>omega
 t1:=fun p hp=>by rw[mg F sf n j hp];split<;>simp<;>omega
 r0:=fun p hp=>by rw[mg F sf n j hp];split<;>simp
 r1:=fun p hp=>by rw[mg F sf n j hp];split<;>simp<;>omega
def iZ(E:List Edge)(sf bd:List Bool)(n:Nat):List Lab:=JV BO (uB sf bd) E (CY BO sf n n)
abbrev w9(sf:List Bool)(p:Nat):Bool:=nth sf p
theorem TN{F:Int}(hF:0≤F)(E:List Edge)(u:Edge→Bool)(sf:List Bool)(n:Nat):Pn F n E u (w9 sf) (CY F sf n n):=by
 refine⟨TM F hF sf n n,?_,?_⟩
 · intro p hp hz
   rw[mg F sf n n hp]
   have:nth sf p=true:=hz
   rw[this,Bool.not_true,Bool.and_false]
   rfl
 · intro p hp hf
   left
   rw[mg F sf n n hp]at hf
   show nth sf p=true
   cases hz:nth sf p with
   | true=>rfl
   | false=>
     rw[hz,decide_eq_true hp]at hf
     simp at hf
theorem zc{E:List Edge}{sf bd:List Bool}{n:Nat}(hE:∀e∈E,e.ok n):Hm BO n E (uB sf bd) (w9 sf) (iZ E sf bd n):=by
 refine EU hE ?_ (TN (by decide) E _ sf n)
 intro e _ hu
 unfold uB at hu
 simp only[aLr,Bool.not_eq_true']at hu
 exact hu.1
def aii(E:List Edge)(sf bd:List Bool)(n p:Nat):List Edge:=wF (w9 sf) (uB sf bd) E (iZ E sf bd n) (nth (iZ E sf bd n) p).r.toNat p
theorem TO{E:List Edge}{sf bd:List Bool}{n:Nat}(hE:∀e∈E,e.ok n)(hn:n≤64){p:Nat}(hp:p<n)(hf:(nth (iZ E sf bd n) p).t<BO):0≤(nth (iZ E sf bd n) p).t∧(nth (iZ E sf bd n) p).t≤64000000∧0≤(nth (iZ E sf bd n) p).r∧(nth (iZ E sf bd n) p).r≤64000000:=by
 have h:=zc (sf:=sf) (bd:=bd) hE
 have h1:=h.time hE hp hf
 have h2:=h.t0 p hp
 have h3:=h.r0 p hp
 have h4:=h.r1 p hp
 omega
theorem A5{l:Nat}{L:C}{S:St}{p:Ex×St}{K:St→Option (Ex×St)}{E:Ex×St→Option (D×ae)}{R:Option (D×ae)}(h:exS aG L S=some p)(h2:(andThen (sY l (some p)) K).bind E=R):(andThen (sY l (exS aG L S)) K).bind E=R:=by
 rw[h];exact h2
def Nb(l:List Bool)(xs:List Int):Nat→List Bool
 | 0=>l
 | j+1=>(Nb l xs j).set (nth xs j).toNat true
theorem EZ(l:List Bool)(xs:List Int):∀j,(Nb l xs j).length=l.length
 | 0=>rfl
 | j+1=>by simp only[Nb,List.length_set];exact EZ l xs j
theorem CZ{L:List Bool}{i j:Nat}{a:Bool}(h:j≠i):nth (L.set j a) i=nth L i:=by
 unfold nth
 simp only[aLl,aLi h]
theorem zd(l:List Bool)(xs:List Int)(p:Nat)(hp:p<l.length)(h0:∀x∈xs,0≤x):∀j,j≤xs.length→nth (Nb l xs j) p=(nth l p||decide ((p:Int)∈xs.take j))
 | 0,_=>by simp[Nb]
 | j+1,hj=>by
   have ih:=zd l xs p hp h0 j (by omega)
   have hx:0≤nth xs j:=h0 _ (aI (by omega))
   have tk:xs.take (j+1)=xs.take j++[nth xs j]:=by
    rw[List.take_succ,jg (by omega)];rfl
   simp only[Nb]
   by_cases c:(nth xs j).toNat=p
   · have:nth ((Nb l xs j).set (nth xs j).toNat true) p=true:=by
      rw[c];exact fw (aLj (by rw[EZ];exact hp))
     have m:(p:Int)∈xs.take (j+1):=by
      rw[tk,List.mem_append,List.mem_singleton];right;omega
     rw[this,decide_eq_true m,Bool.or_true]
   · rw[CZ c,ih]
     have:((p:Int)∈xs.take (j+1))=((p:Int)∈xs.take j):=by
      rw[tk,List.mem_append,List.mem_singleton]
      exact propext ⟨fun h=>h.elim id (fun h=>absurd (by omega) c),.inl⟩
     simp only[this]
def TP(m:aK):List Bool:=m.aa.map Place.surf
def sfL(m:aK)(e:Esc):List Bool:=Nb (TP m) e.safe e.safe.length
def bdL(m:aK)(e:Esc):List Bool:=Nb (List.replicate m.aa.length false) e.bad e.bad.length
theorem qF{m:aK}{e:Esc}(he:e.ok m){p:Nat}(hp:p<m.aa.length):nth (sfL m e) p=sfF m e p:=by
 unfold sfL sfF
 rw[zd _ _ p (by simpa [TP]using hp) (fun x hx=>(Er he.s x hx).1) _ (aLs _),List.take_length]
 congr 1
 unfold TP
 exact fw (by rw[aLn,jg hp];rfl)
theorem ze{m:aK}{e:Esc}(he:e.ok m){p:Nat}(hp:p<m.aa.length):nth (bdL m e) p=bdF e p:=by
 unfold bdL bdF
 rw[zd _ _ p (by simpa using hp) (fun x hx=>(Er he.b x hx).1) _ (aLs _),List.take_length]
 have:nth (List.replicate m.aa.length false) p=false:=fw (by rw[List.getElem?_replicate,if_pos hp])
 rw[this,Bool.false_or]
def JZ(m:aK)(e:Esc)(k:Nat):List Edge:=
 if(k:Int)∈e.shut then []else
  (if 0≤dZ m k false then [⟨k,(nth m.roads k).frm.toNat,(nth m.roads k).to.toNat,dZ m k false⟩]else [])++
  (if 0≤dZ m k true then [⟨k,(nth m.roads k).to.toNat,(nth m.roads k).frm.toNat,dZ m k true⟩]else [])
def wI(m:aK)(e:Esc):Nat→List Edge
 | 0=>[]
 | j+1=>wI m e j++JZ m e j
theorem Nc{m:aK}(hm:m.ok)(e:Esc){k:Nat}(hk:k<m.roads.length):∀x∈JZ m e k,x.ok m.aa.length:=by
 obtain⟨f0,f1,t0,t1, -,l0,l1, -, -, -, -, -, -, -, -⟩:=hm.rs _ (aI hk)
 have s1:=eV hm k hk false
 have s2:=eV hm k hk true
 intro x hx
 unfold JZ at hx
 split at hx
 · cases hx
 · rw[List.mem_append]at hx
   rcases hx with hx | hx
   · split at hx
     · rw[List.mem_singleton]at hx
       subst hx
       exact⟨by simp only;omega,by simp only;omega,by simp only;omega,by simp only;omega⟩
     · cases hx
   · split at hx
     · rw[List.mem_singleton]at hx
       subst hx
       exact⟨by simp only;omega,by simp only;omega,by simp only;omega,by simp only;omega⟩
     · cases hx
theorem A6{m:aK}(hm:m.ok)(e:Esc):∀j,j≤m.roads.length→∀x∈wI m e j,x.ok m.aa.length
 | 0,_=>by simp[wI]
 | j+1,hj=>by
   intro x hx
   rw[wI,List.mem_append]at hx
   rcases hx with hx | hx
   · exact A6 hm e j (by omega) x hx
   · exact Nc hm e (by omega) x hx
def ic(m:aK)(e:Esc):List Edge:=wI m e m.roads.length
abbrev ur(e:Esc):List D:=[.t (tL e.safe),.t (tL e.bad),.t (tL e.shut),.t (tI e.dN)]
end Go.Ev
namespace Go.Ev
open Go
section
variable [Lib]
def TQ(H:ae)(zero:T)(sz:Nat)(x:D):Option (D×ae):=zI H x zero sz
@[go_sem] theorem ahq (call : aD) (get : X → Option D) (H : ae) (x : X) (zero : T) (sz : Nat) : evO call get H (.clr x zero sz) = (get x).bind (TQ H zero sz) := (rfl)
@[go_sem] theorem af7 (H : ae) (zero : T) (sz ep n lo hi : Nat) (es : List D) (h1 : n = es.length) (h2 : lo ≤ hi) (h3 : hi ≤ n) : TQ (.arr sz false ep es :: H) zero sz (.sub 0 ep n lo hi) =
 some (.tup [],.arr sz false ep (es.take lo++List.replicate (hi-lo) (.t zero)++es.drop hi)::H):=by
 have a:eJ (.arr sz false ep es::H) 0 ep n=some (sz,false,es):=by
  show(if ep=ep∧n=es.length then some (sz,false,es)else none)=_
  rw[if_pos ⟨rfl,h1⟩]
 simp only[TQ,zI,a,aLq,Ug]
 by_cases h:hi-lo=0
 · rw[if_pos h,h]
   have:hi=lo:=by omega
   subst this
   simp
 · rw[if_neg h,if_pos (by simp)]
   have:lo+(hi-lo)=hi:=by omega
   rw[this]
   rfl
def TR(H:ae)(x hi:Option D):Option (D×ae):=x.bind fun a=>(hi.bind intOf).bind fun h=>W7 H a h
@[go_sem] theorem ahr (call : aD) (get : X → Option D) (H : ae) (x hi : X) : evO call get H (.pop x hi) = TR H (get x) (get hi) := (rfl)
@[go_sem] theorem af8 (H : ae) (k : IntKind) (sz ep n : Nat) (i : Int) (es : List D) (h1 : n = es.length) (h2 : 0 ≤ i) (h3 : i ≤ n) : TR (.arr sz false ep es :: H) (some (.ref 0 ep n)) (some (.t (.int k i))) =
 some (.ref 0 (ep+1) i.toNat,.arr sz false (ep+1) (es.take i.toNat)::H):=by
 have a:eJ (.arr sz false ep es::H) 0 ep n=some (sz,false,es):=by
  show(if ep=ep∧n=es.length then some (sz,false,es)else none)=_
  rw[if_pos ⟨rfl,h1⟩]
 have b:intOf (.t (.int k i))=some i:=rfl
 have c:idx i=some i.toNat:=by unfold idx;rw[if_pos h2]
 simp only[TR,aLq,b,W7,a,c]
 rw[if_pos ⟨by omega,trivial⟩]
 rfl
end
variable [Lib] [aZ] [bc] [cG] [cJ] [eC] [cL] [cM] [dG] [dE] [bI] [bM] [cA] [cB] [gw] [gz] [gg] [eu] [gH]
def af9(l:List Int)(e:Edge):Bool:= !decide ((e.r:Int)∈l)
def aij(l:List Int)(E:List Edge):List Edge:=E.filter (af9 l)
end Go.Ev
namespace Go.Ev
open Go
variable [Lib] [aZ] [bc] [cG] [cJ] [eC] [cL] [cM] [dG] [dE] [bI] [bM] [cA] [cB] [gw] [gz] [gg] [eu] [gH]
def zE(m:aK)(p:Nat):Nat→Int
 | 0=>0
 | j+1=>if(nth m.roads j).frm=p then max (if(nth m.roads j).to=p then max (zE m p j) (dZ m j false)else zE m p j) (dZ m j true)
  else(if(nth m.roads j).to=p then max (zE m p j) (dZ m j false)else zE m p j)
def zF(m:aK)(p:Nat):Int:=zE m p m.roads.length
theorem tA{m:aK}(hm:m.ok)(p:Nat):∀j,j≤m.roads.length→0≤zE m p j∧zE m p j≤500001
 | 0,_=>by simp[zE]
 | j+1,hj=>by
   have ih:=tA hm p j (by omega)
   have b1:=eV hm j (by omega) false
   have b2:=eV hm j (by omega) true
   unfold zE
   split<;>split<;>omega
theorem TS{m:aK}(hm:m.ok)(p:Nat)(hp:p<m.aa.length):aG 0 N.jh [.t m.e,I p] []=some (I (zF m p),[]):=by
 refine ay K.tz rfl ?_
 have np:=hm.np
 have nr:=hm.nr
 have loop:∀z0 z3 z5 z6:D,exS aG K.wG ⟨[z0,I p,.bp 0 0,z3,I 0,z5,z6,.t (.sl (m.roads.map Road.e)),I m.roads.length,I 0],[.box (ab m)]⟩=
  some (.exit 0,⟨[.und,I p,.bp 0 0,.und,I (zF m p),.und,.und,.t (.sl (m.roads.map Road.e)),I m.roads.length,I m.roads.length],[.box (ab m)]⟩):=by
  intro z0 z3 z5 z6
  refine bV (fun j=>⟨[.und,I p,.bp 0 0,.und,I (zE m p j),.und,.und,.t (.sl (m.roads.map Road.e)),I m.roads.length,I j],[.box (ab m)]⟩) m.roads.length rfl ?_ ?_ (by simp)
  · intro j hj
    have w1:=qE hm j hj false
    have w2:=qE hm j hj true
    have b0:=tA hm p j (by omega)
    have b1:=eV hm j hj false
    have b2:=eV hm j hj true
    have ex:(m.roads.map Road.e)[j]?=some (nth m.roads j).e:=bz _ hj
    conv=>rhs;unfold zE
    generalize zE m p j=L at*
    generalize dZ m j false=u at*
    generalize dZ m j true=v at*
    generalize nth m.roads j=x at*
    obtain⟨frm,to,len,ar,walk,closed,rl,rh,ll,lh⟩:=x
    simp only at*
    obtain⟨aa,roads⟩:=m
    simp only[ab]at*
    by_cases c1:frm=p<;>by_cases c2:to=p
    all_goals simp(disch:=omega)only[go_sem,K.oH,↓reduceIte,ex,w1,w2,c1,c2,reduceAdd,reduceSub]
  · obtain⟨aa,roads⟩:=m
    simp only[ab]at*
    simp(disch:=omega)only[go_sem,K.oH,↓reduceIte,reduceAdd,reduceSub]
    rfl
 generalize zF m p=r at*
 obtain⟨aa,roads⟩:=m
 simp only[ab]at*
 simp(disch:=omega)only[go_sem,K.jh,↓reduceIte,loop,reduceAdd,reduceSub]
abbrev Lf(P:List Edge):List Int:=P.map fun e=>(e.r:Int)
def w1E(m:aK)(e:Esc)(p:Nat):List Edge:=aii (ic m e) (sfL m e) (bdL m e) m.aa.length p
def c1E(m:aK)(e:Esc)(p:Nat):Int:=(nth (iZ (ic m e) (sfL m e) (bdL m e) m.aa.length) p).t
def st2(m:aK)(e:Esc)(p:Nat):List Edge:=aij (Lf (w1E m e p)) (ic m e)
theorem gu{m:aK}(hm:m.ok)(e:Esc):∀x∈ic m e,x.ok m.aa.length:=A6 hm e _ (aLs _)
abbrev nvr:Int:=1099511627776
def TT(m:aK)(e:Esc)(p j:Nat):List Edge:=if 0≤(ed m j p).2∧(j:Int)∉e.shut then [⟨j,p,(ed m j p).1.toNat,(ed m j p).2⟩]else []
def uE(m:aK)(e:Esc)(p:Nat):Nat→List Edge
 | 0=>[]
 | j+1=>uE m e p j++TT m e p j
def adg(m:aK)(e:Esc)(p:Nat):List Edge:=if sfF m e p=true then []else uE m e p m.roads.length
def uF(m:aK)(e:Esc):Nat→List Edge
 | 0=>[]
 | i+1=>uF m e i++adg m e i
def uR(e:Esc)(x:Edge):Bool:= !bdF e x.b
def zR(m:aK)(e:Esc)(p:Nat):Bool:=sfF m e p&& !bdF e p
def Lg(m:aK)(e:Esc)(p:Nat):Lab:=if zR m e p=true then⟨0,0⟩else⟨nvr,0⟩
def zG(m:aK)(e:Esc)(j:Nat):List Lab:=(List.range j).map (Lg m e)
theorem vg(m:aK)(e:Esc)(j:Nat):(zG m e j).length=j:=by simp[zG]
theorem J0(m:aK)(e:Esc)(j:Nat):zG m e (j+1)=zG m e j++[Lg m e j]:=by
 unfold zG;rw[List.range_succ,List.map_append];rfl
theorem px(m:aK)(e:Esc){n p:Nat}(hp:p<n):nth (zG m e n) p=Lg m e p:=by
 refine fw ?_
 unfold zG
 rw[aLn,aLp hp]
 rfl
theorem rY{m:aK}(hm:m.ok){j p:Nat}(hj:j<m.roads.length)(hp:p<m.aa.length)(h:0≤(ed m j p).2):0≤(ed m j p).1∧(ed m j p).1<m.aa.length∧1≤(ed m j p).2∧(ed m j p).2≤500001:=by
 obtain⟨f0,f1,t0,t1, -, -, -, -, -, -, -, -, -, -, -⟩:=hm.rs _ (aI hj)
 have s1:=eV hm j hj false
 have s2:=eV hm j hj true
 unfold ed at*
 split
 · rename_i hc
   rw[if_pos hc]at h
   simp only at h ⊢
   omega
 · rename_i hc
   rw[if_neg hc]at h
   split
   · rename_i hd
     rw[if_pos hd]at h
     simp only at h ⊢
     omega
   · rename_i hd
     rw[if_neg hd]at h
     simp only at h
     omega
theorem zf{m:aK}(hm:m.ok)(e:Esc){p:Nat}(hp:p<m.aa.length):∀j,j≤m.roads.length→∀x∈uE m e p j,x.ok m.aa.length∧x.a=p
 | 0,_=>by simp[uE]
 | j+1,hj=>by
   intro x hx
   rw[uE,List.mem_append]at hx
   rcases hx with hx | hx
   · exact zf hm e hp j (by omega) x hx
   · unfold TT at hx
     split at hx
     · rename_i hc
       rw[List.mem_singleton]at hx
       subst hx
       have:=rY hm (by omega) hp hc.1
       exact⟨⟨hp,by simp only;omega,by simp only;omega,by simp only;omega⟩,rfl⟩
     · cases hx
theorem qG{m:aK}(hm:m.ok)(e:Esc):∀i,i≤m.aa.length→∀x∈uF m e i,x.ok m.aa.length∧sfF m e x.a=false
 | 0,_=>by simp[uF]
 | i+1,hi=>by
   intro x hx
   rw[uF,List.mem_append]at hx
   rcases hx with hx | hx
   · exact qG hm e i (by omega) x hx
   · unfold adg at hx
     split at hx
     · cases hx
     · rename_i hc
       obtain⟨h1,h2⟩:=zf hm e (by omega) _ (aLs _) x hx
       exact⟨h1,by rw[h2];simpa using hc⟩
abbrev rZ(m:aK)(e:Esc)(L:List Lab):ae:=[.box (ab m),.box (ur e),af6 L]
theorem aaC{m:aK}(hm:m.ok){e:Esc}(he:e.ok m)(z0 z1 z4 z7 z8 z9 z10 z11 z12 z13:D):
 exS aG K.kq ⟨[z0,z1,.bp 0 0,.bp 1 0,z4,.ref 2 0 0,I 0,z7,z8,z9,z10,z11,z12,z13],rZ m e []⟩=
  some (.exit 0,⟨[.und,.und,.bp 0 0,.bp 1 0,.und,.ref 2 0 m.aa.length,I m.aa.length,.und,.und,.und,.und,.und,.und,.und],rZ m e (zG m e m.aa.length)⟩):=by
 have np:=hm.np
 have key:exS aG K.kq ⟨[z0,z1,.bp 0 0,.bp 1 0,z4,.ref 2 0 0,I 0,z7,z8,z9,z10,z11,z12,z13],rZ m e []⟩=
  some (.exit 0,⟨[.und,.und,.bp 0 0,.bp 1 0,.und,.ref 2 0 (zG m e m.aa.length).length,I m.aa.length,.und,.und,.und,.und,.und,.und,.und],rZ m e (zG m e m.aa.length)⟩):=by
  refine bV (fun j=>⟨[.und,.und,.bp 0 0,.bp 1 0,.und,.ref 2 0 (zG m e j).length,I j,.und,.und,.und,.und,.und,.und,.und],rZ m e (zG m e j)⟩) m.aa.length (by simp only[go_sem];rfl) ?_ ?_ (by simp)
  · intro j hj
    rw[J0]
    have ln:=vg m e j
    have sf:=pv hm (e:=e) (by have:=he.sl hm;omega) j hj
    have hb:=oe e.bad j (by have:=he.bl hm;omega)
    unfold Lg zR bdF
    generalize zG m e j=L at*
    generalize sfF m e j=c1 at*
    generalize decide ((j:Int)∈e.bad)=c2 at*
    obtain⟨aa,roads⟩:=m
    obtain⟨safe,bad,shut,dN⟩:=e
    simp only[ab,ur,rZ]at*
    cases c1<;>cases c2
    all_goals
     simp(disch:=omega)only[go_sem,K.jK,↓reduceIte,sf,hb,Bool.not_true,Bool.not_false,Bool.and_true,Bool.and_false,Bool.false_and,Bool.true_and,aLv,List.length_singleton,reduceAdd,reduceSub]
     simp only[af6,List.map_append,List.map_cons,List.map_nil]
  · have ln:=vg m e m.aa.length
    generalize zG m e m.aa.length=L at*
    obtain⟨aa,roads⟩:=m
    obtain⟨safe,bad,shut,dN⟩:=e
    simp only[ab,ur,rZ]at*
    simp(disch:=omega)only[go_sem,K.jK,↓reduceIte,reduceAdd,reduceSub]
 rw[vg]at key
 exact key
theorem oO(F:Int)(u:Edge→Bool)(s:List Lab×Bool):wX F u ([]:List Edge) s=s:=M8 F u s
theorem aaD{m:aK}(hm:m.ok){e:Esc}(he:e.ok m)(p:Nat)(hp:p<m.aa.length)(L:List Lab)(hL:ET nvr m.aa.length L)(c:Bool)(z0 z1 z4 z6 z7 z11 z12 z13:D):
 exS aG K.oI ⟨[z0,z1,.bp 0 0,.bp 1 0,z4,.ref 2 0 m.aa.length,z6,z7,B c,I p,I 0,z11,z12,z13],rZ m e L⟩=
  some (.exit 6,⟨[.und,.und,.bp 0 0,.bp 1 0,.und,.ref 2 0 m.aa.length,.und,.und,B (wX nvr (uR e) (uE m e p m.roads.length) (L,c)).2,I p,I m.roads.length,.und,.und,.und],rZ m e (wX nvr (uR e) (uE m e p m.roads.length) (L,c)).1⟩):=by
 have np:=hm.np
 have nr:=hm.nr
 refine bV (fun j=>⟨[.und,.und,.bp 0 0,.bp 1 0,.und,.ref 2 0 m.aa.length,.und,.und,B (wX nvr (uR e) (uE m e p j) (L,c)).2,I p,I j,.und,.und,.und],rZ m e (wX nvr (uR e) (uE m e p j) (L,c)).1⟩) m.roads.length (by simp only[go_sem,uE,oO]) ?_ ?_ (by simp)
 · intro j hj
   rw[uE,EX]
   have li:=JX (u:=uR e) (E:=uE m e p j) (fun x hx=>(zf hm e hp j (by omega) x hx).1) (s:=(L,c)) hL
   generalize hM:wX nvr (uR e) (uE m e p j) (L,c)=S at*
   obtain⟨M,d⟩:=S
   clear hM
   simp only at li ⊢
   have ot:=wH hm j hj p hp
   have oo:=rY hm hj hp
   have hh:=oe e.shut j (by have:=he.hl hm;omega)
   unfold TT
   generalize ed m j p=o at*
   obtain⟨q,t⟩:=o
   simp only at*
   have hb:=oe e.bad q (by have:=he.bl hm;omega)
   by_cases c1:0≤t
   · obtain⟨q0,q1,t1,t2⟩:=oo c1
     obtain⟨k,rfl⟩:=Int.eq_ofNat_of_zero_le q0
     by_cases c2:(j:Int)∈e.shut
     · rw[if_neg (fun h=>h.2 c2),oO]
       rw[decide_eq_true c2]at hh
       obtain⟨aa,roads⟩:=m
       obtain⟨safe,bad,shut,dN⟩:=e
       simp only[ab,ur,rZ]at*
       simp(disch:=omega)only[go_sem,K.cV,↓reduceIte,ot,hh,c1,reduceAdd,reduceSub]
     · rw[if_pos ⟨c1,c2⟩,M9]
       rw[decide_eq_false c2]at hh
       have hk:k<m.aa.length:=by omega
       have q1:=li.t0 k hk
       have q2:=li.t1 k hk
       have q3:=li.r0 k hk
       have q4:=li.r1 k hk
       have ml:=li.l
       have bt:=Gt ⟨(nth M k).t+t,(nth M k).r+1⟩ (nth M p)
       have nv:nvr=1099511627776:=rfl
       simp only[Int.toNat_natCast]
       have rf:Le nvr (uR e) M ⟨j,p,k,t⟩=if A3 nvr (uR e) M ⟨j,p,k,t⟩=true then M.set p ⟨(nth M k).t+t,(nth M k).r+1⟩else M:=rfl
       have rc:A3 nvr (uR e) M ⟨j,p,k,t⟩=(!decide ((k:Int)∈e.bad)&&decide ((nth M k).t<nvr)&&kC ⟨(nth M k).t+t,(nth M k).r+1⟩ (nth M p)):=rfl
       rw[rf]
       clear rf
       generalize A3 nvr (uR e) M ⟨j,p,k,t⟩=r at*
       generalize hx:nth M p=x at*
       generalize hy:nth M k=y at*
       obtain⟨xt,xr⟩:=x
       obtain⟨yt,yr⟩:=y
       simp only at*
       have e1:(M.map Lab.e)[p]?=some (Lab.e ⟨xt,xr⟩):=by rw[← hx];exact bz _ (by omega)
       generalize kC ⟨yt+t,yr+1⟩ ⟨xt,xr⟩=lv at*
       by_cases c3:(k:Int)∈e.bad
       · rw[decide_eq_true c3]at hb rc
         simp only[Bool.not_true,Bool.false_and]at rc
         subst rc
         obtain⟨aa,roads⟩:=m
         obtain⟨safe,bad,shut,dN⟩:=e
         simp only[ab,ur,rZ]at*
         simp(disch:=omega)only[go_sem,K.cV,↓reduceIte,ot,hh,hb,c1,Bool.or_false,aLt,reduceAdd,reduceSub]
       · rw[decide_eq_false c3]at hb rc
         by_cases c4:yt<1099511627776
         · rw[decide_eq_true (show yt<nvr from c4)]at rc
           simp only[Bool.not_false,Bool.true_and]at rc
           subst rc
           obtain⟨aa,roads⟩:=m
           obtain⟨safe,bad,shut,dN⟩:=e
           simp only[ab,ur,rZ]at*
           cases r with
           | true=>
             simp(disch:=omega)only[go_sem,K.cV,↓reduceIte,ot,hh,hb,bt,c1,c4,hx,hy,e1,Bool.or_true,TL,reduceAdd,reduceSub]
           | false=>
             simp(disch:=omega)only[go_sem,K.cV,↓reduceIte,ot,hh,hb,bt,c1,c4,hx,hy,e1,Bool.or_false,aLt,reduceAdd,reduceSub]
         · rw[decide_eq_false (show ¬yt<nvr from c4)]at rc
           simp only[Bool.not_false,Bool.and_false,Bool.false_and]at rc
           subst rc
           obtain⟨aa,roads⟩:=m
           obtain⟨safe,bad,shut,dN⟩:=e
           simp only[ab,ur,rZ]at*
           simp(disch:=omega)only[go_sem,K.cV,↓reduceIte,ot,hh,hb,c1,c4,hx,hy,Bool.or_false,aLt,reduceAdd,reduceSub]
   · rw[if_neg (fun h=>c1 h.1),oO]
     obtain⟨aa,roads⟩:=m
     obtain⟨safe,bad,shut,dN⟩:=e
     simp only[ab,ur,rZ]at*
     simp(disch:=omega)only[go_sem,K.cV,↓reduceIte,ot,c1,reduceAdd,reduceSub]
 · generalize wX nvr (uR e) (uE m e p m.roads.length) (L,c)=S at*
   obtain⟨aa,roads⟩:=m
   obtain⟨safe,bad,shut,dN⟩:=e
   simp only[ab,ur,rZ]at*
   simp(disch:=omega)only[go_sem,K.cV,↓reduceIte,reduceAdd,reduceSub]
theorem aaE{m:aK}(hm:m.ok){e:Esc}(he:e.ok m)(L:List Lab)(hL:ET nvr m.aa.length L)(z0 z1 z4 z6 z7 z10 z11 z12 z13:D):
 exS aG K.oJ ⟨[z0,z1,.bp 0 0,.bp 1 0,z4,.ref 2 0 m.aa.length,z6,z7,B false,I 0,z10,z11,z12,z13],rZ m e L⟩=
  some (.exit 4,⟨[.und,.und,.bp 0 0,.bp 1 0,.und,.ref 2 0 m.aa.length,.und,.und,B (wX nvr (uR e) (uF m e m.aa.length) (L,false)).2,I m.aa.length,.und,.und,.und,.und],rZ m e (wX nvr (uR e) (uF m e m.aa.length) (L,false)).1⟩):=by
 have np:=hm.np
 refine bV (fun j=>⟨[.und,.und,.bp 0 0,.bp 1 0,.und,.ref 2 0 m.aa.length,.und,.und,B (wX nvr (uR e) (uF m e j) (L,false)).2,I j,.und,.und,.und,.und],rZ m e (wX nvr (uR e) (uF m e j) (L,false)).1⟩) m.aa.length (by simp only[go_sem,uF,oO]) ?_ ?_ (by simp)
 · intro j hj
   rw[uF,EX]
   have li:=JX (u:=uR e) (E:=uF m e j) (fun x hx=>(qG hm e j (by omega) x hx).1) (s:=(L,false)) hL
   generalize hM:wX nvr (uR e) (uF m e j) (L,false)=S at*
   obtain⟨M,d⟩:=S
   clear hM
   simp only at li ⊢
   have sf:=pv hm (e:=e) (by have:=he.sl hm;omega) j hj
   have l4:=aaD hm he j hj M li d
   have ml:=li.l
   unfold adg
   generalize sfF m e j=c at*
   cases c with
   | true=>
     rw[if_pos rfl,oO]
     clear l4
     obtain⟨aa,roads⟩:=m
     obtain⟨safe,bad,shut,dN⟩:=e
     simp only[ab,ur,rZ]at*
     simp(disch:=omega)only[go_sem,K.iq,↓reduceIte,sf,reduceAdd,reduceSub]
   | false=>
     rw[if_neg (by simp)]
     have lf:=JX (u:=uR e) (E:=uE m e j m.roads.length) (fun x hx=>(zf hm e hj _ (aLs _) x hx).1) (s:=(M,d)) li
     have fl:=lf.l
     generalize wX nvr (uR e) (uE m e j m.roads.length) (M,d)=Q at*
     obtain⟨Q1,Q2⟩:=Q
     obtain⟨aa,roads⟩:=m
     obtain⟨safe,bad,shut,dN⟩:=e
     simp only[ab,ur,rZ]at*
     simp(disch:=omega)only[go_sem,K.iq,↓reduceIte,sf,l4,reduceAdd,reduceSub]
 · generalize wX nvr (uR e) (uF m e m.aa.length) (L,false)=S at*
   obtain⟨aa,roads⟩:=m
   obtain⟨safe,bad,shut,dN⟩:=e
   simp only[ab,ur,rZ]at*
   simp(disch:=omega)only[go_sem,K.iq,↓reduceIte,reduceAdd,reduceSub]
theorem Pr(m:aK)(e:Esc)(n:Nat):ET nvr n (zG m e n) where
 l:=vg m e n
 t0:=fun p hp=>by rw[px m e hp];unfold Lg;split<;>simp
 t1:=fun p hp=>by rw[px m e hp];unfold Lg;split<;>simp
 r0:=fun p hp=>by rw[px m e hp];unfold Lg;split<;>simp
 r1:=fun p hp=>by rw[px m e hp];unfold Lg;split<;>simp
def lN(m:aK)(e:Esc):List Lab:=JV nvr (uR e) (uF m e m.aa.length) (zG m e m.aa.length)
theorem aaF{m:aK}(hm:m.ok){e:Esc}(he:e.ok m)(z0 z1 z4 z6 z7 z9 z10 z11 z12 z13:D):
 exS aG K.oK ⟨[z0,z1,.bp 0 0,.bp 1 0,z4,.ref 2 0 m.aa.length,z6,z7,B true,z9,z10,z11,z12,z13],rZ m e (zG m e m.aa.length)⟩=
  some (.exit 2,⟨[.und,.und,.bp 0 0,.bp 1 0,.und,.ref 2 0 m.aa.length,.und,.und,B false,.und,.und,.und,.und,.und],rZ m e (lN m e)⟩):=by
 have ek:=qG hm e m.aa.length (aLs _)
 refine(FR (fun L c=>⟨[.und,.und,.bp 0 0,.bp 1 0,.und,.ref 2 0 m.aa.length,.und,.und,B c,.und,.und,.und,.und,.und],rZ m e L⟩)
  (fun L=>(.exit 2,⟨[.und,.und,.bp 0 0,.bp 1 0,.und,.ref 2 0 m.aa.length,.und,.und,B false,.und,.und,.und,.und,.und],rZ m e L⟩))
  (fun L=>sF nvr (uR e) (uF m e m.aa.length) L false (uF m e m.aa.length).length) (ET nvr m.aa.length) (M7 nvr) ?_ ?_ ?_ _ (Pr m e _) (by simp only[go_sem])).1
 · intro L hL
   have h:=A4 (fun x hx=>(ek x hx).1) hL (u:=uR e) (uF m e m.aa.length).length (aLs _)
   exact⟨h.1,h.2.2.1⟩
 · intro L hL
   have l3:=aaE hm he L hL
   have ln:=hL.l
   have h:=(A4 (fun x hx=>(ek x hx).1) hL (u:=uR e) (uF m e m.aa.length).length (aLs _)).1.l
   unfold wX at l3
   generalize sF nvr (uR e) (uF m e m.aa.length) L false (uF m e m.aa.length).length=Q at*
   obtain⟨aa,roads⟩:=m
   obtain⟨safe,bad,shut,dN⟩:=e
   simp only[ab,ur,rZ]at*
   simp(disch:=omega)only[go_sem,K.jL,↓reduceIte,l3,reduceAdd,reduceSub]
 · intro L hL
   refine⟨?_,by simp⟩
   obtain⟨aa,roads⟩:=m
   obtain⟨safe,bad,shut,dN⟩:=e
   simp only[ab,ur,rZ]at*
   simp(disch:=omega)only[go_sem,K.jL,↓reduceIte,reduceAdd,reduceSub]
theorem uu{m:aK}(hm:m.ok){e:Esc}:Hm nvr m.aa.length (uF m e m.aa.length) (uR e) (zR m e) (lN m e):=by
 have ek:=qG hm e m.aa.length (aLs _)
 refine EU (fun x hx=>(ek x hx).1) (fun x hx _=>by unfold zR;rw[(ek x hx).2];rfl) ⟨Pr m e _,?_,?_⟩
 · intro p hp hz
   rw[px m e hp]
   unfold Lg
   rw[if_pos hz]
 · intro p hp hf
   left
   rw[px m e hp]at hf
   unfold Lg at hf
   split at hf
   · assumption
   · simp at hf
theorem J4{m:aK}(hm:m.ok){e:Esc}(he:e.ok m):aG 0 N.dJ [.t m.e,.t e.e] []=some (.t (.sl ((lN m e).map Lab.e)),[]):=by
 refine ay K.lG rfl ?_
 have l1:=aaC hm he
 have l2:=aaF hm he
 have ln:=(uu hm (e:=e)).l
 generalize lN m e=L at*
 generalize zG m e m.aa.length=L0 at*
 obtain⟨aa,roads⟩:=m
 obtain⟨safe,bad,shut,dN⟩:=e
 simp only[ab,ur,rZ,af6,List.map_nil]at*
 simp(disch:=omega)only[go_sem,K.dJ,↓reduceIte,l1,l2,reduceAdd,reduceSub]
theorem Nd{m:aK}(hm:m.ok)(e:Esc){k:Nat}(hk:k<m.roads.length)(p:Nat):(JZ m e k).filter (fun x=>decide (x.a=p))=TT m e p k:=by
 obtain⟨f0,f1,t0,t1,ne, -, -, -, -, -, -, -, -, -, -⟩:=hm.rs _ (aI hk)
 unfold JZ TT ed
 by_cases c:(k:Int)∈e.shut
 · rw[if_pos c,if_neg (fun h=>h.2 c)];rfl
 · rw[if_neg c,List.filter_append]
   by_cases a1:(nth m.roads k).frm=p
   · have a2:¬(nth m.roads k).to=p:=fun h=>ne (by rw[a1,h])
     have b1:(nth m.roads k).frm.toNat=p:=by omega
     have b2:¬(nth m.roads k).to.toNat=p:=by omega
     rw[if_pos a1]
     have e2:(if 0≤dZ m k true then [(⟨k,(nth m.roads k).to.toNat,(nth m.roads k).frm.toNat,dZ m k true⟩:Edge)]else []).filter (fun x=>decide (x.a=p))=[]:=by
      split
      · simp[b2]
      · rfl
     rw[e2,List.append_nil]
     by_cases s:0≤dZ m k false
     · rw[if_pos s,if_pos ⟨s,c⟩];simp[b1]
     · rw[if_neg s,if_neg (fun h=>s h.1)];rfl
   · have b1:¬(nth m.roads k).frm.toNat=p:=by omega
     rw[if_neg a1]
     have e2:(if 0≤dZ m k false then [(⟨k,(nth m.roads k).frm.toNat,(nth m.roads k).to.toNat,dZ m k false⟩:Edge)]else []).filter (fun x=>decide (x.a=p))=[]:=by
      split
      · simp[b1]
      · rfl
     rw[e2,List.nil_append]
     by_cases a2:(nth m.roads k).to=p
     · have b2:(nth m.roads k).to.toNat=p:=by omega
       rw[if_pos a2]
       by_cases s:0≤dZ m k true
       · rw[if_pos s,if_pos ⟨s,c⟩];simp[b2]
       · rw[if_neg s,if_neg (fun h=>s h.1)];rfl
     · have b2:¬(nth m.roads k).to.toNat=p:=by omega
       rw[if_neg a2]
       split<;>simp[b2]
theorem A7{m:aK}(hm:m.ok)(e:Esc)(p:Nat):∀j,j≤m.roads.length→(wI m e j).filter (fun x=>decide (x.a=p))=uE m e p j
 | 0,_=>rfl
 | j+1,hj=>by
   rw[wI,List.filter_append,A7 hm e p j (by omega),Nd hm e (by omega) p]
   rfl
theorem E3{m:aK}(hm:m.ok)(e:Esc)(p:Nat):(ic m e).filter (fun x=>decide (x.a=p))=uE m e p m.roads.length:=A7 hm e p _ (aLs _)
theorem r5(m:aK)(e:Esc)(x:Edge):∀n,x∈uF m e n↔∃p,p<n∧sfF m e p=false∧x∈uE m e p m.roads.length
 | 0=>by simp[uF]
 | n+1=>by
   rw[uF,List.mem_append,r5 m e x n]
   unfold adg
   constructor
   · rintro (⟨p,h1,h2,h3⟩ | h)
     · exact⟨p,by omega,h2,h3⟩
     · split at h
       · cases h
       · rename_i hc
         exact⟨n,by omega,by simpa using hc,h⟩
   · rintro ⟨p,h1,h2,h3⟩
     by_cases c:p=n
     · subst c
       right
       rw[if_neg (by simp[h2])]
       exact h3
     · exact .inl ⟨p,by omega,h2,h3⟩
theorem A8{m:aK}(hm:m.ok)(e:Esc)(p:Nat)(x:Edge):x∈uE m e p m.roads.length↔x∈ic m e∧x.a=p:=by
 rw[← E3 hm e p,List.mem_filter,decide_eq_true_eq]
def W6(m:aK)(e:Esc)(p:Nat):Prop:=¬(sfF m e p=true∧bdF e p=true)
theorem r6{m:aK}(hm:m.ok){e:Esc}(he:e.ok m):∀p,p<m.aa.length→W6 m e p→
 ((nth (iZ (ic m e) (sfL m e) (bdL m e) m.aa.length) p).t<BO↔(nth (lN m e) p).t<nvr)∧((nth (iZ (ic m e) (sfL m e) (bdL m e) m.aa.length) p).t<BO→nth (iZ (ic m e) (sfL m e) (bdL m e) m.aa.length) p=nth (lN m e) p):=by
 have np:=hm.np
 refine aaB (zc (gu hm e)) (uu hm (e:=e)) (gu hm e) (fun x hx=>(qG hm e _ (aLs _) x hx).1) (W6 m e) ?_ ?_ ?_ ?_ ?_ (by show _<(1152921504606846976:Int);omega) (by show _<(1099511627776:Int);omega)
 · intro x hx hu
   have xo:=gu hm e x hx
   unfold uB at hu
   rw[qF he xo.1,ze he xo.2.1]at hu
   simp only[aLr,Bool.not_eq_true']at hu
   refine⟨x,(r5 m e x _).2 ⟨x.a,xo.1,hu.1,(A8 hm e x.a x).2 ⟨hx,rfl⟩⟩,?_,rfl,rfl,rfl⟩
   unfold uR
   rw[hu.2]
   rfl
 · intro x hx hu
   obtain⟨p,h1,h2,h3⟩:=(r5 m e x _).1 hx
   obtain⟨h4,h5⟩:=(A8 hm e p x).1 h3
   have xo:=gu hm e x h4
   refine⟨x,h4,?_,rfl,rfl,rfl⟩
   unfold uB
   unfold uR at hu
   rw[qF he xo.1,ze he xo.2.1,h5,h2]
   simpa using hu
 · intro p hp hr
   unfold zR w9
   rw[qF he hp]
   unfold W6 at hr
   cases h1:sfF m e p<;>cases h2:bdF e p<;>simp_all
 · intro x hx hu
   have xo:=gu hm e x hx
   unfold uB at hu
   rw[ze he xo.2.1]at hu
   simp only[aLr,Bool.not_eq_true']at hu
   intro h
   rw[hu.2]at h
   exact absurd h.2 (by simp)
 · intro x hx hu
   unfold uR at hu
   intro h
   rw[h.2]at hu
   exact absurd hu (by simp)
def kr(m:aK)(p j:Nat):Edge:=⟨j,p,(ed m j p).1.toNat,(ed m j p).2⟩
def Gu(m:aK)(e:Esc)(L:List Lab)(p j:Nat):Bool:=
 decide (0≤(ed m j p).2∧(j:Int)∉e.shut)&&(uR e (kr m p j)&&decide ((nth L (kr m p j).b).t<nvr)&&decide ((nth L (kr m p j).b).t+(kr m p j).t=(nth L p).t∧(nth L (kr m p j).b).r+1=(nth L p).r))
def E4(m:aK)(e:Esc)(L:List Lab)(p:Nat):Option Nat:=(List.range m.roads.length).find? (Gu m e L p)
theorem A9(m:aK)(e:Esc)(p:Nat)(Q:Edge→Bool):∀j,(uE m e p j).find? Q=((List.range j).find? (fun i=>decide (0≤(ed m i p).2∧(i:Int)∉e.shut)&&Q (kr m p i))).map (kr m p)
 | 0=>rfl
 | j+1=>by
   rw[uE,List.find?_append,A9 m e p Q j,List.range_succ,List.find?_append]
   cases (List.range j).find? (fun i=>decide (0≤(ed m i p).2∧(i:Int)∉e.shut)&&Q (kr m p i))with
   | some i=>rfl
   | none=>
     simp only[Option.map_none,Option.none_or]
     unfold TT
     by_cases c:0≤(ed m j p).2∧(j:Int)∉e.shut
     · rw[if_pos c]
       show List.find? Q [kr m p j]=_
       cases hq:Q (kr m p j)<;>simp[hq,c]
     · rw[if_neg c]
       simp[c]
theorem Ba(u:Edge→Bool)(E:List Edge)(L:List Lab)(p:Nat):Gs u E L p=(E.filter (fun x=>decide (x.a=p))).find? (CW u L p):=by
 unfold Gs
 rw[List.find?_filter]
 congr 1
 funext x
 unfold CW
 cases decide (x.a=p)<;>simp
theorem wJ{α:Type}{p q:α→Bool}:∀ {l:List α},(∀x∈l,p x=q x)→l.find? p=l.find? q
 | [],_=>rfl
 | x::l,h=>by
   simp only[List.find?_cons,h x (by simp)]
   rw[wJ (l:=l) fun y hy=>h y (by simp[hy])]
theorem Gv{m:aK}(hm:m.ok){e:Esc}(he:e.ok m){p:Nat}(hp:p<m.aa.length)(hz:sfF m e p=false)(hf:(nth (iZ (ic m e) (sfL m e) (bdL m e) m.aa.length) p).t<BO):
 Gs (uB (sfL m e) (bdL m e)) (ic m e) (iZ (ic m e) (sfL m e) (bdL m e) m.aa.length) p=(E4 m e (lN m e) p).map (kr m p):=by
 have rp:W6 m e p:=fun h=>by rw[hz]at h;exact absurd h.1 (by simp)
 have le:=r6 hm he
 have lp:=(le p hp rp).2 hf
 have z1:=zc (sf:=sfL m e) (bd:=bdL m e) (gu hm e)
 have tm:=z1.time (gu hm e) hp hf
 have np:=hm.np
 rw[Ba,E3 hm e p,A9]
 unfold E4
 congr 1
 refine wJ fun j hj=>?_
 have hj:=aLu.1 hj
 unfold Gu
 by_cases c:0≤(ed m j p).2∧(j:Int)∉e.shut
 · rw[decide_eq_true c,Bool.true_and,Bool.true_and]
   have oo:=rY hm hj hp c.1
   have eb:(kr m p j).b<m.aa.length:=by unfold kr;simp only;omega
   have ea:(kr m p j).a=p:=rfl
   have et:1≤(kr m p j).t:=oo.2.2.1
   generalize kr m p j=x at*
   unfold CW uB
   rw[ea,decide_eq_true rfl,Bool.true_and,qF he hp,hz,Bool.not_false,Bool.true_and,ze he eb]
   unfold uR
   cases hb:bdF e x.b with
   | true=>rfl
   | false=>
     rw[Bool.not_false,Bool.true_and,Bool.true_and]
     have rb:W6 m e x.b:=fun h=>by rw[hb]at h;exact absurd h.2 (by simp)
     obtain⟨l1,l2⟩:=le x.b eb rb
     rw[← lp]
     generalize nth (iZ (ic m e) (sfL m e) (bdL m e) m.aa.length) p=y at*
     have nb:nth (lN m e) x.b=nth (lN m e) x.b:=rfl
     generalize nth (iZ (ic m e) (sfL m e) (bdL m e) m.aa.length) x.b=w at*
     generalize nth (lN m e) x.b=v at*
     obtain⟨yt,yr⟩:=y
     obtain⟨wt,wr⟩:=w
     obtain⟨vt,vr⟩:=v
     simp only[Lab.mk.injEq]at*
     have fc:BO=1152921504606846976:=rfl
     rw[← Bool.decide_and]
     refine decide_eq_decide.2 ⟨fun h=>?_,fun h=>?_⟩
     · have hw:wt<BO:=by omega
       have:=l2 hw
       have:=l1.1 hw
       omega
     · have hw:wt<BO:=l1.2 h.1
       have:=l2 hw
       omega
 · rw[decide_eq_false c,Bool.false_and,Bool.false_and]
abbrev rbH(m:aK)(e:Esc)(W:List Int):ae:=[.box (ab m),.box (ur e),fB W]
theorem aga{m:aK}(hm:m.ok){e:Esc}(he:e.ok m)(L:List Lab)(hL:ET nvr m.aa.length L)(p0 p:Nat)(hp:p<m.aa.length)(W:List Int)(hW:W.length≤100000000)(J:Nat)(hJ:E4 m e L p=some J)(z0 z1 z5 z6 z7 z12 z13:D):
 ∃x y,exS aG K.rW ⟨[z0,z1,I p0,.bp 0 0,.bp 1 0,z5,z6,z7,.t (.sl (L.map Lab.e)),.ref 2 0 W.length,I p,I 0,z12,z13],rbH m e W⟩=
  some (.exit 2,⟨[.und,.und,I p0,.bp 0 0,.bp 1 0,.und,.und,.und,.t (.sl (L.map Lab.e)),.ref 2 0 (W.length+1),I (kr m p J).b,I J,x,y],rbH m e (W++[(J:Int)])⟩):=by
 have np:=hm.np
 have nr:=hm.nr
 have ml:=hL.l
 have J1:J<m.roads.length:=aLu.1 (List.mem_of_find?_eq_some hJ)
 have J2:Gu m e L p J=true:=List.find?_some hJ
 have J3:∀j,j<J→Gu m e L p j=false:=fun j hj=>by
  have:=(List.find?_range_eq_some.1 hJ).2.2 j hj
  simpa using this
 have key:=En (vs:=[z0,z1,I p0,.bp 0 0,.bp 1 0,z5,z6,z7,.t (.sl (L.map Lab.e)),.ref 2 0 W.length,I p,I 0,z12,z13]) (H:=rbH m e W) (c:=K.dm) (gc:=true) (dead:=[0,1,5,6,7,12,13])
  (fun j st=>st=⟨[.und,.und,I p0,.bp 0 0,.bp 1 0,.und,.und,.und,.t (.sl (L.map Lab.e)),.ref 2 0 W.length,I p,I j,.und,.und],rbH m e W⟩) J
  (fun q=>∃x y,q=(.exit 2,⟨[.und,.und,I p0,.bp 0 0,.bp 1 0,.und,.und,.und,.t (.sl (L.map Lab.e)),.ref 2 0 (W.length+1),I (kr m p J).b,I J,x,y],rbH m e (W++[(J:Int)])⟩)) (by simp only[go_sem]) ?_ ?_
 · obtain⟨q,h1,x,y,rfl⟩:=key
   exact⟨x,y,h1⟩
 · rintro j st hj rfl
   refine⟨_,?_,rfl⟩
   have hc:=J3 j hj
   have hj:j<m.roads.length:=by omega
   have ot:=wH hm j hj p hp
   have oo:=rY hm hj hp
   have hh:=oe e.shut j (by have:=he.hl hm;omega)
   unfold Gu kr uR bdF at hc
   generalize ed m j p=o at*
   obtain⟨q,t⟩:=o
   simp only at*
   have hb:=oe e.bad q (by have:=he.bl hm;omega)
   have nv:nvr=1099511627776:=rfl
   by_cases c1:0≤t
   · obtain⟨q0,q1,t1,t2⟩:=oo c1
     obtain⟨k,rfl⟩:=Int.eq_ofNat_of_zero_le q0
     by_cases c2:(j:Int)∈e.shut
     · rw[decide_eq_true c2]at hh
       clear hc oo
       obtain⟨aa,roads⟩:=m
       obtain⟨safe,bad,shut,dN⟩:=e
       simp only[ab,ur,rbH]at*
       simp(disch:=omega)only[go_sem,K.dm,↓reduceIte,ot,hh,c1,reduceAdd,reduceSub]
     · rw[decide_eq_false c2]at hh
       have hk:k<m.aa.length:=by omega
       have q1:=hL.t0 k hk
       have q2:=hL.t1 k hk
       have q3:=hL.r0 k hk
       have q4:=hL.r1 k hk
       rw[decide_eq_true (⟨c1,c2⟩:0≤t∧(j:Int)∉e.shut),Bool.true_and,Int.toNat_natCast]at hc
       generalize hx:nth L p=x at*
       generalize hy:nth L k=y at*
       obtain⟨xt,xr⟩:=x
       obtain⟨yt,yr⟩:=y
       simp only at*
       by_cases c3:(k:Int)∈e.bad
       · rw[decide_eq_true c3]at hb
         clear hc oo
         obtain⟨aa,roads⟩:=m
         obtain⟨safe,bad,shut,dN⟩:=e
         simp only[ab,ur,rbH]at*
         simp(disch:=omega)only[go_sem,K.dm,↓reduceIte,ot,hh,hb,c1,reduceAdd,reduceSub]
       · rw[decide_eq_false c3]at hb hc
         simp only[Bool.not_false,Bool.true_and,Bool.and_eq_false_iff,decide_eq_false_iff_not]at hc
         obtain⟨aa,roads⟩:=m
         obtain⟨safe,bad,shut,dN⟩:=e
         simp only[ab,ur,rbH]at*
         by_cases c4:yt<1099511627776
         · by_cases c5:yt+t=xt
           · have c6:¬yr+1=xr:=by
              intro h
              rcases hc with hc | hc
              · exact hc c4
              · exact hc ⟨c5,h⟩
             simp(disch:=omega)only[go_sem,K.dm,↓reduceIte,ot,hh,hb,c1,c4,c5,c6,hx,hy,decide_true,decide_false,reduceAdd,reduceSub]
           · simp(disch:=omega)only[go_sem,K.dm,↓reduceIte,ot,hh,hb,c1,c4,c5,hx,hy,decide_true,decide_false,reduceAdd,reduceSub]
         · simp(disch:=omega)only[go_sem,K.dm,↓reduceIte,ot,hh,hb,c1,c4,hx,hy,reduceAdd,reduceSub]
   · clear hc oo
     obtain⟨aa,roads⟩:=m
     obtain⟨safe,bad,shut,dN⟩:=e
     simp only[ab,ur,rbH]at*
     simp(disch:=omega)only[go_sem,K.dm,↓reduceIte,ot,c1,reduceAdd,reduceSub]
 · rintro st rfl
   refine⟨_,?_,by simp,I (kr m p J).b,I (kr m p J).t,rfl⟩
   have ot:=wH hm J J1 p hp
   have oo:=rY hm J1 hp
   have hh:=oe e.shut J (by have:=he.hl hm;omega)
   have nv:nvr=1099511627776:=rfl
   unfold Gu kr uR bdF at J2
   unfold kr
   generalize ed m J p=o at*
   obtain⟨q,t⟩:=o
   simp only at*
   have hb:=oe e.bad q (by have:=he.bl hm;omega)
   simp only[aLr,decide_eq_true_eq,Bool.not_eq_true',decide_eq_false_iff_not]at J2
   obtain⟨⟨c1,c2⟩,⟨c3,c4⟩,c5,c6⟩:=J2
   obtain⟨q0,q1,t1,t2⟩:=oo c1
   obtain⟨k,rfl⟩:=Int.eq_ofNat_of_zero_le q0
   have hk:k<m.aa.length:=by omega
   have q1:=hL.t0 k hk
   have q2:=hL.t1 k hk
   have q3:=hL.r0 k hk
   have q4:=hL.r1 k hk
   rw[Int.toNat_natCast]at*
   rw[decide_eq_false c2]at hh
   rw[decide_eq_false c3]at hb
   generalize hx:nth L p=x at*
   generalize hy:nth L k=y at*
   obtain⟨xt,xr⟩:=x
   obtain⟨yt,yr⟩:=y
   simp only at*
   have c4:yt<1099511627776:=c4
   clear J3 oo
   obtain⟨aa,roads⟩:=m
   obtain⟨safe,bad,shut,dN⟩:=e
   simp only[ab,ur,rbH]at*
   simp(disch:=omega)only[go_sem,K.dm,↓reduceIte,ot,hh,hb,c1,c4,c5,c6,hx,hy,decide_true,reduceAdd,reduceSub]
   simp only[fB,List.map_append,List.map_cons,List.map_nil]
abbrev rbV(p0:Nat)(L:List Lab)(W:List Int)(p:Nat):List D:=[.und,.und,I p0,.bp 0 0,.bp 1 0,.und,.und,.und,.t (.sl (L.map Lab.e)),.ref 2 0 W.length,I p,.und,.und,.und]
theorem TU{m:aK}(hm:m.ok){e:Esc}(he:e.ok m)(p0:Nat):∀(k p:Nat) (W:List Int),p<m.aa.length→(nth (iZ (ic m e) (sfL m e) (bdL m e) m.aa.length) p).t<BO→
 (nth (iZ (ic m e) (sfL m e) (bdL m e) m.aa.length) p).r.toNat≤k→W.length+k≤100000000→
 ∃q:Nat,jy true [0,1,5,6,7,11,12,13] (exS aG K.fU) ⟨rbV p0 (lN m e) W p,rbH m e W⟩=
  some (.exit 0,⟨rbV p0 (lN m e) (W++Lf (wF (w9 (sfL m e)) (uB (sfL m e) (bdL m e)) (ic m e) (iZ (ic m e) (sfL m e) (bdL m e) m.aa.length) k p)) q,
   rbH m e (W++Lf (wF (w9 (sfL m e)) (uB (sfL m e) (bdL m e)) (ic m e) (iZ (ic m e) (sfL m e) (bdL m e) m.aa.length) k p))⟩):=by
 have hZ:=zc (sf:=sfL m e) (bd:=bdL m e) (gu hm e)
 have hL:=(uu hm (e:=e)).toET
 have done:∀(p:Nat) (W:List Int),p<m.aa.length→sfF m e p=true→jy true [0,1,5,6,7,11,12,13] (exS aG K.fU) ⟨rbV p0 (lN m e) W p,rbH m e W⟩=some (.exit 0,⟨rbV p0 (lN m e) W p,rbH m e W⟩):=by
  intro p W hp hz
  refine c7 ?_ (by simp)
  have sf:=pv hm (e:=e) (by have:=he.sl hm;omega) p hp
  rw[hz]at sf
  generalize lN m e=L at*
  obtain⟨aa,roads⟩:=m
  obtain⟨safe,bad,shut,dN⟩:=e
  simp only[ab,ur,rbH,rbV]at*
  simp(disch:=omega)only[go_sem,K.fU,↓reduceIte,sf,Bool.not_true,reduceAdd,reduceSub]
 intro k
 induction k with
 | zero=>
   intro p W hp hf hk hW
   have hz:nth (sfL m e) p=true:=by
    by_cases hz:nth (sfL m e) p=true
    · exact hz
    · obtain⟨x,_,e1,_,_,_,_,e5⟩:=yd hZ (gu hm e) hp hf (by simpa using hz)
      have:=hZ.r0 x.b (gu hm e x e1).2.1
      have:=hZ.r0 p hp
      omega
   refine⟨p,?_⟩
   simp only[wF,Lf,List.map_nil,List.append_nil]
   exact done p W hp (by rw[← qF he hp];exact hz)
 | succ k ih=>
   intro p W hp hf hk hW
   by_cases hz:nth (sfL m e) p=true
   · refine⟨p,?_⟩
     have:wF (w9 (sfL m e)) (uB (sfL m e) (bdL m e)) (ic m e) (iZ (ic m e) (sfL m e) (bdL m e) m.aa.length) (k+1) p=[]:=by unfold wF;rw[if_pos hz]
     rw[this]
     simp only[Lf,List.map_nil,List.append_nil]
     exact done p W hp (by rw[← qF he hp];exact hz)
   · obtain⟨x,e0,e1,e2,e3,e4,e5,e6⟩:=yd hZ (gu hm e) hp hf (by simpa using hz)
     have hz2:sfF m e p=false:=by rw[← qF he hp];simpa using hz
     have br:=hZ.r0 x.b (gu hm e x e1).2.1
     have sfst:=Gv hm he hp hz2 hf
     rw[e0]at sfst
     cases hJ:E4 m e (lN m e) p with
     | none=>rw[hJ]at sfst;cases sfst
     | some J=>
       rw[hJ]at sfst
       simp only[aLw,Option.some.injEq]at sfst
       have l2:=aga hm he (lN m e) hL p0 p hp W (by omega) J hJ .und .und .und .und .und .und .und
       have xr:x.r=J:=by rw[sfst];rfl
       obtain⟨q,h⟩:=ih x.b (W++[(x.r:Int)]) (gu hm e x e1).2.1 e4 (by omega) (by simp;omega)
       refine⟨q,?_⟩
       have pe:wF (w9 (sfL m e)) (uB (sfL m e) (bdL m e)) (ic m e) (iZ (ic m e) (sfL m e) (bdL m e) m.aa.length) (k+1) p=x::wF (w9 (sfL m e)) (uB (sfL m e) (bdL m e)) (ic m e) (iZ (ic m e) (sfL m e) (bdL m e) m.aa.length) k x.b:=by
        conv=>lhs;unfold wF
        rw[if_neg hz,e0]
       have rd:iI true [0,1,5,6,7,11,12,13] (rbH m e W).length (exS aG K.fU ⟨rbV p0 (lN m e) W p,rbH m e W⟩)=some ⟨rbV p0 (lN m e) (W++[(x.r:Int)]) x.b,rbH m e (W++[(x.r:Int)])⟩:=by
        have sf:=pv hm (e:=e) (by have:=he.sl hm;omega) p hp
        rw[hz2]at sf
        rw[← sfst,←xr]at l2
        clear ih h pe sfst
        obtain⟨z1,z2,l2⟩:=l2
        generalize lN m e=L at*
        generalize x.r=r at*
        generalize x.b=b at*
        have wl:(W++[(r:Int)]).length=W.length+1:=by simp
        generalize W++[(r:Int)]=W2 at*
        obtain⟨aa,roads⟩:=m
        obtain⟨safe,bad,shut,dN⟩:=e
        simp only[ab,ur,rbH,rbV]at*
        simp(disch:=omega)only[go_sem,K.fU,↓reduceIte,sf,Bool.not_false,l2,reduceAdd,reduceSub]
        rw[wl]
       simpa only[pe,Lf,List.map_cons,List.append_assoc,List.cons_append,List.nil_append]using gK rd h
def J5(m:aK)(e:Esc)(p:Nat):D:=
 if sfF m e p=true then .tup [.t (tL []),I 0,B true]
 else if c1E m e p<BO then .tup [.t (tL (Lf (w1E m e p))),I (c1E m e p),B true]else .tup [.t (tL []),I 0,B false]
theorem Nf{m:aK}(hm:m.ok){e:Esc}(he:e.ok m)(p:Nat)(hp:p<m.aa.length):aG 0 N.dQ [.t m.e,.t e.e,I p] []=some (J5 m e p,[]):=by
 refine ay K.oL rfl ?_
 have np:=hm.np
 have vd:=EY hm he
 have sf:=pv hm (e:=e) (by have:=he.sl hm;omega) p hp
 have lb:=J4 hm he
 have lz:=uu hm (e:=e)
 have ml:=lz.l
 have e1:((lN m e).map Lab.e)[p]?=some (nth (lN m e) p).e:=bz _ (by omega)
 unfold J5
 cases hz:sfF m e p with
 | true=>
   rw[if_pos rfl]
   rw[hz]at sf
   clear lb lz e1 ml
   obtain⟨aa,roads⟩:=m
   obtain⟨safe,bad,shut,dN⟩:=e
   simp only[ab,ur,tL,List.map_nil]at*
   simp(disch:=omega)only[go_sem,K.dQ,↓reduceIte,vd,sf,Bool.not_true,reduceAdd,reduceSub]
 | false=>
   rw[if_neg (by simp)]
   rw[hz]at sf
   have rp:W6 m e p:=fun h=>by rw[hz]at h;exact absurd h.1 (by simp)
   obtain⟨le1,le2⟩:=r6 hm he p hp rp
   have e4:(nth (iZ (ic m e) (sfL m e) (bdL m e) m.aa.length) p).t=c1E m e p:=rfl
   by_cases hf:c1E m e p<BO
   · rw[if_pos hf]
     have cl:=TO (sf:=sfL m e) (bd:=bdL m e) (gu hm e) np hp hf
     obtain⟨q,lp⟩:=TU hm he p (nth (iZ (ic m e) (sfL m e) (bdL m e) m.aa.length) p).r.toNat p [] hp hf (aLs _) (by simp;omega)
     have w1:wF (w9 (sfL m e)) (uB (sfL m e) (bdL m e)) (ic m e) (iZ (ic m e) (sfL m e) (bdL m e) m.aa.length) (nth (iZ (ic m e) (sfL m e) (bdL m e) m.aa.length) p).r.toNat p=w1E m e p:=rfl
     rw[w1]at lp
     have eq:=le2 hf
     have e5:(nth (lN m e) p).t=c1E m e p:=by rw[← eq];rfl
     have hf2:(nth (lN m e) p).t<1099511627776:=le1.1 hf
     have lp2:∀z0 z1 z5 z6 z7 z11 z12 z13,exS aG K.rX ⟨[z0,z1,I p,.bp 0 0,.bp 1 0,z5,z6,z7,.t (.sl ((lN m e).map Lab.e)),.ref 2 0 0,I p,z11,z12,z13],rbH m e []⟩=_:=fun z0 z1 z5 z6 z7 z11 z12 z13=>Iv lp
     rw[e4]at cl
     clear eq le1 le2 w1 lp lz e4 rp
     generalize Lf (w1E m e p)=R at*
     generalize c1E m e p=t1 at*
     generalize lN m e=L at*
     generalize hx:nth L p=x at*
     obtain⟨xt,xr⟩:=x
     simp only at e5 hf2 e1
     subst e5
     obtain⟨aa,roads⟩:=m
     obtain⟨safe,bad,shut,dN⟩:=e
     simp only[ab,ur,rbH,rbV]at*
     simp(disch:=omega)only[go_sem,K.dQ,↓reduceIte,vd,sf,lb,e1,hf2,hx,Bool.not_true,reduceAdd,reduceSub]
     refine A5 (lp2 _ _ _ _ _ _ _ _) ?_
     simp(disch:=omega)only[go_sem,K.dQ,↓reduceIte,e1,hx,List.nil_append,reduceAdd,reduceSub]
   · rw[if_neg hf]
     have hf2:¬(nth (lN m e) p).t<1099511627776:=fun h=>hf (le1.2 h)
     clear le1 le2 lz e4 rp
     generalize lN m e=L at*
     generalize hx:nth L p=x at*
     obtain⟨xt,xr⟩:=x
     simp only at hf2 e1
     obtain⟨aa,roads⟩:=m
     obtain⟨safe,bad,shut,dN⟩:=e
     simp only[ab,ur,tL,List.map_nil]at*
     simp(disch:=omega)only[go_sem,K.dQ,↓reduceIte,vd,sf,lb,e1,hf2,hx,Bool.not_true,reduceAdd,reduceSub]
end Go.Ev
namespace Go.Ev
open Go
variable [Lib]
def kN(p:Nat→Bool)(l:List Int)(j:Nat):List Int:=((List.range j).filter p).map (nth l)
theorem E5(p:Nat→Bool)(l:List Int)(j:Nat):(kN p l j).length≤j:=by
 unfold kN
 rw[List.length_map]
 have:=List.length_filter_le p (List.range j)
 rwa [List.length_range]at this
theorem wK(p:Nat→Bool)(l:List Int)(j:Nat):kN p l (j+1)=kN p l j++(if p j then [nth l j]else []):=by
 unfold kN
 rw[List.range_succ,List.filter_append,List.map_append]
 cases h:p j<;>simp[h]
def kA(p:Nat→Bool)(l:List Int)(j:Nat):List Int:=kN p l j++l.drop (kN p l j).length
theorem J6(p:Nat→Bool)(l:List Int){j:Nat}(hj:j≤l.length):(kA p l j).length=l.length:=by
 unfold kA
 have:=E5 p l j
 rw[aLv,List.length_drop];omega
theorem Ng{A B:List Int}{i:Nat}(h:A.length≤i):nth (A++B) i=nth B (i-A.length):=by
 unfold nth
 simp only[aLl,aLh h]
theorem J7{A:List Int}{k i:Nat}:nth (A.drop k) i=nth A (k+i):=by
 unfold nth
 simp only[aLl,List.getElem?_drop]
theorem Ps(p:Nat→Bool)(l:List Int)(j:Nat){i:Nat}(hi:(kN p l j).length≤i):nth (kA p l j) i=nth l i:=by
 unfold kA
 rw[Ng hi,J7]
 congr 1
 omega
theorem zg{l:List Int}{k:Nat}(h:k<l.length):l.drop k=nth l k::l.drop (k+1):=by
 rw[List.drop_eq_getElem_cons h]
 congr 1
 have:=jg h
 rw[aLc h]at this
 exact Option.some.inj this
theorem aaG(p:Nat→Bool)(l:List Int){j:Nat}(hj:j<l.length)(h:p j=true):(kA p l j).set (kN p l j).length (nth l j)=kA p l (j+1):=by
 unfold kA
 have dl:=E5 p l j
 rw[wK p l j,if_pos h,List.set_append_right _ _ (aLs _),Nat.sub_self,aLv,List.length_singleton,List.append_assoc]
 congr 1
 rw[zg (show(kN p l j).length<l.length by omega)]
 rfl
theorem J8(p:Nat→Bool)(l:List Int){j:Nat}(h:p j=false):kN p l (j+1)=kN p l j∧kA p l (j+1)=kA p l j:=by
 have:kN p l (j+1)=kN p l j:=by rw[wK p l j,h];simp
 unfold kA
 rw[this]
 exact⟨rfl,rfl⟩
theorem J9(p:Nat→Bool)(l:List Int):∀ {j:Nat},j≤l.length→(∀i,i<j→p i=true)→kN p l j=l.take j
 | 0,_,_=>rfl
 | j+1,hj,h=>by
   rw[wK,if_pos (h j (by omega)),J9 p l (by omega) (fun i hi=>h i (by omega)),List.take_succ,jg (by omega)]
   rfl
theorem Nh(p:Nat→Bool)(l:List Int){i:Nat}(hi:i<l.length)(h:∀k,k<i→p k=true)(hp:p i=false):kA p l (i+1)=l∧(kN p l (i+1)).length=i:=by
 have e:kN p l (i+1)=l.take i:=by
  rw[(J8 p l hp).1,J9 p l (by omega) h]
 constructor
 · unfold kA
   rw[e,List.length_take,Nat.min_eq_left (by omega),List.take_append_drop]
 · rw[e,List.length_take];omega
theorem aaH(p:Nat→Bool)(l:List Int)(j:Nat)(x:Int):x∈kN p l j↔∃i,i<j∧p i=true∧nth l i=x:=by
 unfold kN
 rw[List.mem_map]
 constructor
 · rintro ⟨i,hi,rfl⟩
   rw[List.mem_filter,aLu]at hi
   exact⟨i,hi.1,hi.2,rfl⟩
 · rintro ⟨i,h1,h2,rfl⟩
   exact⟨i,List.mem_filter.2 ⟨aLu.2 h1,h2⟩,rfl⟩
def dH(l:List Int)(i:Nat):Bool:=decide (i=0)||decide (nth l i≠nth l (i-1))
def uv(l:List Int):List Int:=kN (dH l) l l.length
theorem Pt{l:List Int}(h:l.Pairwise (· ≤ ·)){i j:Nat}(hij:i<j)(hj:j<l.length):nth l i≤nth l j:=by
 have:=List.pairwise_iff_getElem.1 h i j (by omega) hj hij
 have e1:nth l i=l[i]:=fw (aLc (by omega))
 have e2:nth l j=l[j]:=fw (aLc hj)
 omega
theorem Ni{l:List Int}(h:l.Pairwise (· ≤ ·))(x:Int):x∈uv l↔x∈l:=by
 unfold uv
 rw[aaH]
 constructor
 · rintro ⟨i,h1,_,rfl⟩;exact aI h1
 · intro hx
   obtain⟨j,hj⟩:=aLf.1 hx
   have jl:=(aLe.1 hj).1
   have key:∀j,j<l.length→∃i,i<l.length∧dH l i=true∧nth l i=nth l j:=by
    intro j
    induction j with
    | zero=>intro h0;exact⟨0,h0,by simp[dH],rfl⟩
    | succ j ih=>
      intro hj
      by_cases c:nth l (j+1)=nth l j
      · obtain⟨i,h1,h2,h3⟩:=ih (by omega)
        exact⟨i,h1,h2,by rw[h3,c]⟩
      · exact⟨j+1,hj,by unfold dH;simp[c],rfl⟩
   obtain⟨i,h1,h2,h3⟩:=key j jl
   exact⟨i,h1,h2,by rw[h3,fw hj]⟩
theorem TV{l:List Int}(h:l.Pairwise (· ≤ ·)):(uv l).Pairwise (· < ·):=by
 unfold uv kN
 rw[List.pairwise_map]
 have:((List.range l.length).filter (dH l)).Pairwise (fun i j=>i<j∧j<l.length∧dH l j=true):=by
  rw[List.pairwise_filter]
  have r:(List.range l.length).Pairwise (fun i j=>i<j∧j<l.length):=by
   have:=List.pairwise_lt_range (n:=l.length)
   refine List.Pairwise.imp_of_mem ?_ this
   intro i j hi hj hij
   exact⟨hij,aLu.1 hj⟩
  exact r.imp (fun{a b} hab h1 h2=>⟨hab.1,hab.2,h2⟩)
 refine this.imp ?_
 rintro i j ⟨h1,h2,h3⟩
 unfold dH at h3
 simp only[Bool.or_eq_true,decide_eq_true_eq]at h3
 have h4:nth l j≠nth l (j-1):=h3.elim (fun h=>by omega) id
 have h5:nth l (j-1)≤nth l j:=Pt h (by omega) h2
 have h6:nth l i≤nth l (j-1):=by
  by_cases c:i=j-1
  · rw[c];exact Int.le_refl _
  · exact Pt h (by omega) (by omega)
 omega
end Go.Ev
namespace Go.Ev
open Go
variable [Lib] [aZ] [bc] [cG] [cJ] [eC] [cL] [cM] [dG] [dE] [bI] [bM] [cA] [cB] [gw] [gz] [gg] [eu] [gH]
def vi(l:List Int)(x:Int):Nat:=(l.takeWhile fun y=>decide (y<x)).length
def Lh(l:List Int)(x:Int):List Int:=if vi l x<l.length∧nth l (vi l x)=x then l else l.take (vi l x)++x::l.drop (vi l x)
theorem wM:∀(l:List Int) (x:Int),vi l x≤l.length∧(∀i,i<vi l x→nth l i<x)∧(vi l x<l.length→¬nth l (vi l x)<x)
 | [],x=>⟨aLs _,fun i hi=>absurd hi (Nat.not_lt_zero _),fun h=>absurd h (by simp)⟩
 | y::l,x=>by
   obtain⟨a,b,c⟩:=wM l x
   by_cases h:y<x
   · have e:vi (y::l) x=vi l x+1:=by unfold vi;rw[List.takeWhile_cons,if_pos (by simpa using h)];rfl
     rw[e]
     refine⟨by simp;omega,?_,?_⟩
     · intro i hi
       cases i with
       | zero=>exact h
       | succ i=>exact b i (by omega)
     · intro hl
       exact c (by simp at hl;omega)
   · have e:vi (y::l) x=0:=by unfold vi;rw[List.takeWhile_cons,if_neg (by simpa using h)];rfl
     rw[e]
     exact⟨Nat.zero_le _,fun i hi=>absurd hi (Nat.not_lt_zero _),fun _=>h⟩
theorem TW(l:List Int)(x:Int)(hl:l.length≤1000000):aG 0 N.fJ [.t (tL l),I x] []=some (.t (tL (Lh l x)),[]):=by
 refine ay K.qB rfl ?_
 obtain⟨k1,k2,k3⟩:=wM l x
 have loop:∀z2:D,exS aG K.uo ⟨[.t (tL l),I x,z2,I 0],[]⟩=some (.exit 0,⟨[.t (tL l),I x,.und,I (vi l x)],[]⟩):=by
  intro z2
  refine bV (fun j=>⟨[.t (tL l),I x,.und,I j],[]⟩) (vi l x) rfl ?_ ?_ (by simp)
  · intro j hj
    have:=k2 j hj
    simp(disch:=omega)only[go_sem,K.jZ,↓reduceIte,reduceAdd,reduceSub]
  · by_cases c:vi l x<l.length
    · have:=k3 c
      simp(disch:=omega)only[go_sem,K.jZ,↓reduceIte,reduceAdd,reduceSub]
    · simp(disch:=omega)only[go_sem,K.jZ,↓reduceIte,reduceAdd,reduceSub]
 unfold Lh
 generalize vi l x=k at*
 have tk:List.take k (List.map (T.int .i64) l)=List.map (T.int .i64) (l.take k):=(List.map_take ..).symm
 have dk:List.drop k (List.map (T.int .i64) l)=List.map (T.int .i64) (l.drop k):=(List.map_drop ..).symm
 have tl:(l.take k).length≤1000000:=by rw[List.length_take];omega
 have dl:(l.drop k).length≤1000000:=by rw[List.length_drop];omega
 have cm:List.map D.t (List.map (T.int .i64) (l.take k))++[D.t (T.int .i64 x)]++List.map D.t (List.map (T.int .i64) (l.drop k))=List.map D.t (List.map (T.int .i64) (l.take k++x::l.drop k)):=by simp
 have rl:(l.take k).length+1+(l.drop k).length=(l.take k++x::l.drop k).length:=by simp;omega
 by_cases c:k<l.length
 · by_cases d:nth l k=x
   · rw[if_pos ⟨c,d⟩]
     clear cm
     simp(disch:=omega)only[go_sem,K.fJ,↓reduceIte,loop,c,d,reduceAdd,reduceSub]
   · rw[if_neg (fun h=>d h.2)]
     generalize l.take k++x::l.drop k=R at*
     generalize l.take k=A at*
     generalize l.drop k=G at*
     simp(disch:=omega)only[go_sem,K.fJ,↓reduceIte,loop,c,d,tk,dk,cm,reduceAdd,reduceSub]
 · rw[if_neg (fun h=>c h.1)]
   generalize l.take k++x::l.drop k=R at*
   generalize l.take k=A at*
   generalize l.drop k=G at*
   simp(disch:=omega)only[go_sem,K.fJ,↓reduceIte,loop,c,tk,dk,cm,reduceAdd,reduceSub]
theorem Nj(l:List Int)(x y:Int):y∈Lh l x↔y=x∨y∈l:=by
 unfold Lh
 split
 · rename_i h
   constructor
   · exact .inr
   · rintro (rfl | h2)
     · rw[← h.2];exact aI h.1
     · exact h2
 · constructor
   · intro h
     rcases List.mem_append.1 h with h | h
     · exact .inr (List.mem_of_mem_take h)
     · rcases List.mem_cons.1 h with h | h
       · exact .inl h
       · exact .inr (List.mem_of_mem_drop h)
   · rintro (rfl | h)
     · exact List.mem_append_right _ (List.mem_cons_self ..)
     · rw[← List.take_append_drop (vi l x) l]at h
       rcases List.mem_append.1 h with h | h
       · exact List.mem_append_left _ h
       · exact List.mem_append_right _ (List.mem_cons_of_mem _ h)
theorem E6{l:List Int}{n:Int}:ud l n=true↔l.Pairwise (· < ·)∧∀x∈l,0≤x∧x<n:=by
 rw[← tf,MH]
 refine and_congr_right fun _=>forall_congr' fun x=>forall_congr' fun _=>?_
 omega
theorem TX{l:List Int}(h:l.Pairwise (· < ·))(x:Int):(Lh l x).Pairwise (· < ·):=by
 obtain⟨k1,k2,k3⟩:=wM l x
 unfold Lh
 split
 · exact h
 · rename_i hc
   have tk:∀y∈l.take (vi l x),y<x:=by
    intro y hy
    obtain⟨i,hi,rfl⟩:=List.mem_iff_getElem.1 hy
    rw[List.length_take]at hi
    have:=k2 i (by omega)
    have e2:nth l i=l[i]:=fw (aLc (by omega))
    rw[e2]at this
    simpa using this
   have dk:∀y∈l.drop (vi l x),x<y:=by
    intro y hy
    have hlt:vi l x<l.length:=by
     have:=List.length_pos_of_mem hy
     rw[List.length_drop]at this
     omega
    rw[zg hlt]at hy
    have h0:x<nth l (vi l x):=by
     have:=k3 hlt
     have:¬nth l (vi l x)=x:=fun h=>hc ⟨hlt,h⟩
     omega
    rcases List.mem_cons.1 hy with rfl | hy
    · exact h0
    · have pd:=h.drop (i:=vi l x)
      rw[zg hlt,List.pairwise_cons]at pd
      have:=pd.1 y hy
      omega
   rw[List.pairwise_append,List.pairwise_cons]
   refine⟨h.take,⟨dk,h.drop⟩,fun a ha b hb=>?_⟩
   have:=tk a ha
   rcases List.mem_cons.1 hb with rfl | hb
   · exact this
   · have:=dk b hb
     omega
theorem E7{m:aK}(hm:m.ok){k:Nat}(hk:k<m.roads.length)(b:Bool):dZ m k b= -1↔((nth m.roads k).closed=true∨(nth m.roads k).walk=false):=by
 have l0:=(hm.rs _ (aI hk)).l0
 have l1:=(hm.rs _ (aI hk)).l1
 constructor
 · intro h
   apply Classical.byContradiction
   intro hn
   unfold dZ wq at h
   simp only at h
   rw[if_neg hn]at h
   have:=Pq (s:=if -10*((nth m.aa (if b=true then(nth m.roads k).frm else(nth m.roads k).to).toNat).h-(nth m.aa (if b=true then(nth m.roads k).to else(nth m.roads k).frm).toNat).h)>(nth m.roads k).len then 3 else if 10*((nth m.aa (if b=true then(nth m.roads k).frm else(nth m.roads k).to).toNat).h-(nth m.aa (if b=true then(nth m.roads k).to else(nth m.roads k).frm).toNat).h)>(nth m.roads k).len then 2 else 4) l0 l1 (by
    repeat' split
    all_goals first | exact .inl rfl | exact .inr (.inl rfl) | exact .inr (.inr rfl))
   omega
 · intro h
   unfold dZ wq
   simp only
   rw[if_pos h]
theorem TY{m:aK}(hm:m.ok)(p:Nat)(hp:p<m.aa.length):aG 0 N.gV [.t m.e,I p] []=some (I (zF m p),[]):=by
 refine ay K.qz rfl ?_
 have np:=hm.np
 have nr:=hm.nr
 have loop:∀z0 z3 z6:D,exS aG K.uk ⟨[z0,I p,.bp 0 0,z3,I 0,I 0,z6],[.box (ab m)]⟩=
  some (.exit 0,⟨[.und,I p,.bp 0 0,.und,I (zF m p),I m.roads.length,.und],[.box (ab m)]⟩):=by
  intro z0 z3 z6
  refine bV (fun j=>⟨[.und,I p,.bp 0 0,.und,I (zE m p j),I j,.und],[.box (ab m)]⟩) m.roads.length rfl ?_ ?_ (by simp)
  · intro j hj
    have w1:=vf hm j hj false
    have w2:=vf hm j hj true
    have b0:=tA hm p j (by omega)
    have b1:=eV hm j hj false
    have b2:=eV hm j hj true
    have i1:=E7 hm hj false
    have i2:=E7 hm hj true
    have ne:=(hm.rs _ (aI hj)).ne
    have bb:dZ m j false= -1↔dZ m j true= -1:=i1.trans i2.symm
    have ex:(m.roads.map Road.e)[j]?=some (nth m.roads j).e:=bz _ hj
    clear i1 i2
    conv=>rhs;unfold zE
    generalize zE m p j=L at*
    generalize dZ m j false=u at*
    generalize dZ m j true=v at*
    generalize nth m.roads j=x at*
    obtain⟨frm,to,len,ar,walk,closed,rl,rh,ll,lh⟩:=x
    simp only at*
    obtain⟨aa,roads⟩:=m
    simp only[ab]at*
    have m1:∀a:Int,0≤a→max a (-1)=a:=fun a h=>by omega
    by_cases c1:frm=p
    · have c2:¬to=p:=fun h=>ne (by rw[c1,h])
      by_cases c3:0≤u
      · simp(disch:=omega)only[go_sem,K.fE,↓reduceIte,ex,w1,w2,c1,c2,c3,reduceAdd,reduceSub]
      · have v1:v= -1:=by omega
        subst v1
        simp(disch:=omega)only[go_sem,K.fE,↓reduceIte,ex,w1,w2,c1,c2,c3,m1,reduceAdd,reduceSub]
    · by_cases c2:to=p
      · by_cases c3:0≤v
        · simp(disch:=omega)only[go_sem,K.fE,↓reduceIte,ex,w1,w2,c1,c2,c3,reduceAdd,reduceSub]
        · have u1:u= -1:=by omega
          subst u1
          simp(disch:=omega)only[go_sem,K.fE,↓reduceIte,ex,w1,w2,c1,c2,c3,m1,reduceAdd,reduceSub]
      · simp(disch:=omega)only[go_sem,K.fE,↓reduceIte,ex,w1,w2,c1,c2,reduceAdd,reduceSub]
  · obtain⟨aa,roads⟩:=m
    simp only[ab]at*
    simp(disch:=omega)only[go_sem,K.fE,↓reduceIte,reduceAdd,reduceSub]
    rfl
 generalize zF m p=r at*
 obtain⟨aa,roads⟩:=m
 simp only[ab]at*
 simp(disch:=omega)only[go_sem,K.gV,↓reduceIte,loop,reduceAdd,reduceSub]
end Go.Ev
namespace Go.Ev.K
open Go.Ev
def jj:C:= (.seq (.ite [m v4,m v0,u (.ln l0),u (.bin .lss l2 l0)] [] 0 .skip (.exit 0)) (.seq (.blk 1 (.ite [m v1,m v4,u (.cv .u64 l0),u (.bin .shr l2 l0),u (.bin .and l0 (.i 1)),u (.bin .eql l0 (.i 1))] [] 0 (.reg [m v3,m v0,m v4,a 1 l1 l0,g l0,u (.bs [.l 0] 1),u (.app l5 l0 true 1),x 3 l0] []) .skip)) (.reg [m v4,u (.bin .add l0 (.i 1)),x 4 l0] [])))
def r7:C:= .loop true [2] K.jj
def fg:Fn:= { bo:=2,vars:=[0,1,4,5,6],body:=(q [w 2 (.mv (.c (.nil)))] [] (q [w 3 (.nw 1)] [] (.seq (q [x 4 (.i 0)] [] (.blk 0 K.r7)) (q [m v3,x 2 l0] [] .ret)))),res:=[(2,none)]}
def jk:C:= (.seq (.ite [m v3,m v0,u (.ln l0),u (.bin .lss l2 l0)] [] 0 .skip (.exit 0)) (.seq (.blk 1 (.ite [m v0,m v3,a 1 l1 l0,g l0,m v1,m v3,a 1 l1 l0,g l0,u (.bin .neq l4 l0)] [] 0 (q [m v0,m v3,a 1 l1 l0,g l0,m v1,m v3,a 1 l1 l0,g l0,u (.bin .lss l4 l0),x 2 l0] [] .ret) .skip)) (.reg [m v3,u (.bin .add l0 (.i 1)),x 3 l0] [])))
def r8:C:= .loop true [2] K.jk
def eF:Fn:= { bo:=2,vars:=[0,1,4,5],body:=(q [x 2 (.b false)] [] (.seq (q [x 3 (.i 0)] [] (.blk 0 K.r8)) (q [x 2 (.b false)] [] .ret))),res:=[(2,none)]}
def bu:Fn:= { bo:=1,vars:=[0,2],body:=(q [w 1 (.mv (.c (.nil)))] [] (q [m v0,m v0,u (.ln l0),m v0,u (.ln l0),u (.s3 l4 l2 l0),x 1 l0] [] .ret)),res:=[(1,none)]}
def ai:Fn:= { bo:=2,vars:=[0,1,4],body:=(q [x 2 (.b false)] [] (q [m v0,m v1,u (.ca N.au 0 [] [.l 1,.l 0]),u (.bin .geq l0 (.i 0)),x 2 l0] [] .ret)),res:=[(2,none)]}
def bZ:Fn:= { bo:=2,vars:=[0,1,2,3],body:=(q [w 2 (.bx v0 2),x 3 (.b false)] [] (q [f 0 v2,g l0,f 0 v1,g l0,u (.ln l0),u (.bin .sub l0 (.i 1)),u (.ca N.gn 0 [] [.l 4,.i 0,.l 0]),u (.un .not l0),m l0,y 0 false (.fa v2 1),i 1 false l0,y 2 false (.ca N.gn 0 [] [.l 0,.i 0,.i 100]),y 3 false (.un .not l0),u (.pk l4 (.b true) l0),x 3 l0] [] .ret)),res:=[(3,none)]}
def aM:Fn:= { bo:=4,vars:=[0,1,2,3,5],body:=(q [x 4 (.b false)] [] (q [m v0,g v1,u (.bin .eql l1 l0),m l0,y 0 false (.fa v2 0),i 1 false l0,e 2 false v0,y 3 false (.ia l1 l0 2),y 4 false (.fa l0 1),i 5 false l0,y 6 false (.un .not l0),e 7 false l0,y 0 true (.fa v3 0),i 1 true l0,e 2 true v0,y 3 true (.ca N.aE 0 [] [.l 1,.l 0]),y 4 true (.un .not l0),y 13 false (.pk l5 l0 (.b false)),u (.pk (.l 14) (.b true) l0),x 4 l0] [] .ret)),res:=[(4,none)]}
def aV:C:= (.its [u (.bin .lss v5 v4)] [] 0 .skip (.exit 0) (.seq (.blk 1 (q [m v5,x 3 l0] [] (.ite [m v1,m v0,m v3,a 2 l1 l0,h 2 l0,u (.cw l4 0 [] [.l 0])] [] 0 (q [m v3,x 2 l0] [] .ret) .skip))) (.reg [u (.bin .add v5 (.i 1)),x 5 l0] [])))
def cZ:C:= .loop true [2,3] K.aV
def au:Fn:= { bo:=2,vars:=[0,1,4,5,7,8],body:=(q [x 2 (.i 0)] [] (.seq (q [m v0,w 4 (.ln l0),x 5 (.i 0)] [] (.blk 0 K.cZ)) (q [w 2 (.mv (.i (-1)))] [] .ret))),res:=[(2,none)]}
def aY:Fn:= { bo:=1,vars:=[2],body:= .fail,res:=[(0,none)],prim:=[5,N.ak]}
end Go.Ev.K
namespace Go.Ev
class jf [Lib]:Prop where
 oP:Lib.fs N.fg=some K.fg
 oQ:Lib.fs N.eF=some K.eF
 gI:Lib.fs N.bu=some K.bu
 bL:Lib.fs N.ai=some K.ai
 jM:Lib.fs N.bZ=some K.bZ
 jN:Lib.fs N.aM=some K.aM
 bS:Lib.fs N.au=some K.au
 eh:Lib.fs N.aY=some K.aY
namespace K
variable [Lib] [jf]
theorem oP:Lib.fs N.fg=some K.fg:=jf.oP
theorem oQ:Lib.fs N.eF=some K.eF:=jf.oQ
theorem gI:Lib.fs N.bu=some K.bu:=jf.gI
theorem bL:Lib.fs N.ai=some K.ai:=jf.bL
theorem jM:Lib.fs N.bZ=some K.bZ:=jf.jM
theorem jN:Lib.fs N.aM=some K.aM:=jf.jN
theorem bS:Lib.fs N.au=some K.au:=jf.bS
theorem eh:Lib.fs N.aY=some K.aY:=jf.eh
end K
end Go.Ev
namespace Go.Ev
open Go
variable [Lib] [aZ] [bc] [cG] [cJ] [eC] [cL] [cM] [dG] [dE] [bI] [bM] [cA] [cB] [gw] [gz] [gg] [eu] [gH] [gY] [dR] [jf]
abbrev aC(e:Esc):List D:=[.t (tL e.safe),.t (tL e.bad),.t (tL e.shut),I e.dN]
def C0(m:aK)(e:Esc)(q x:Int):Bool:=decide (x=q)||(!(nth m.aa x.toNat).surf&& !decide (x∈e.safe))
def okR(m:aK)(e:Esc)(q:Int)(k:Nat)(back:Bool):Bool:=decide (0≤dZ m k back)&&(C0 m e q ((nth m.roads k).dst back)&& !decide ((nth m.roads k).dst back∈e.bad))
def hR(m:aK)(e:Esc)(q:Int)(k:Nat)(back:Bool)(s:List Int×Bool):List Int×Bool:=
 if(okR m e q k back&&decide (nth s.1 ((nth m.roads k).dst back).toNat+dZ m k back<nth s.1 ((nth m.roads k).src back).toNat))=true then
  (s.1.set ((nth m.roads k).src back).toNat (nth s.1 ((nth m.roads k).dst back).toNat+dZ m k back),true)else s
def rR(m:aK)(e:Esc)(q:Int)(k:Nat)(s:List Int×Bool):List Int×Bool:=if(k:Int)∈e.shut then s else hR m e q k true (hR m e q k false s)
def rsR(m:aK)(e:Esc)(q:Int)(s:List Int×Bool):Nat→List Int×Bool
 | 0=>s
 | k+1=>rR m e q k (rsR m e q s k)
theorem Pu(m:aK)(e:Esc)(q:Int)(k:Nat)(back:Bool)(s:List Int×Bool):(hR m e q k back s).1.length=s.1.length:=by
 unfold hR;split<;>simp
theorem aaI(m:aK)(e:Esc)(q:Int)(k:Nat)(s:List Int×Bool):(rR m e q k s).1.length=s.1.length:=by
 unfold rR;split
 · rfl
 · rw[Pu,Pu]
theorem Ka(m:aK)(e:Esc)(q:Int)(s:List Int×Bool):∀k,(rsR m e q s k).1.length=s.1.length
 | 0=>rfl
 | k+1=>by rw[rsR,aaI,Ka m e q s k]
structure uG(m:aK)(e:Esc)(q:Nat)(d:List Int):Prop where
 len:d.length=m.aa.length
 lo:∀j,0≤nth d j
 hi:∀j,nth d j≤1152921504606846976
 zero:nth d q=0
 suc:∀j,j<m.aa.length→nth d j<1152921504606846976→j=q∨∃k back,k<m.roads.length∧(k:Int)∉e.shut∧okR m e q k back=true∧((nth m.roads k).src back).toNat=j∧nth d ((nth m.roads k).dst back).toNat+dZ m k back≤nth d j
theorem E8{m:aK}(hm:m.ok){e:Esc}{q k:Nat}(hk:k<m.roads.length)(hs:(k:Int)∉e.shut)(back:Bool){s:List Int×Bool}(h:uG m e q s.1):uG m e q (hR m e q k back s).1:=by
 unfold hR
 split
 · rename_i c
   obtain⟨c1,c2⟩:=Bool.and_eq_true_iff.1 c
   have c2:=of_decide_eq_true c2
   have c3:=of_decide_eq_true (Bool.and_eq_true_iff.1 c1).1
   have r1:=Road.pL (hm.rs _ (aI hk)) back
   have r2:=Road.xV (hm.rs _ (aI hk)) back
   obtain⟨len,lo,hi,zero,suc⟩:=h
   have s1:=hi ((nth m.roads k).src back).toNat
   have d0:=lo ((nth m.roads k).dst back).toNat
   have nq:((nth m.roads k).src back).toNat≠q:=fun e=>by rw[e,zero]at c2;omega
   refine⟨by simp[len],fun j=>?_,fun j=>?_,?_,fun j hj=>?_⟩
   · simp only;rw[mO _ _ (by omega)];split
     · omega
     · exact lo j
   · simp only;rw[mO _ _ (by omega)];split
     · omega
     · exact hi j
   · simp only;rw[mO _ _ (by omega),if_neg nq.symm];exact zero
   · simp only;rw[mO _ _ (by omega)]
     have nd:∀ {v:Int},v≤nth s.1 ((nth m.roads k).src back).toNat→∀i,nth (s.1.set ((nth m.roads k).src back).toNat v) i≤nth s.1 i:=fun hv i=>by
      rw[mO _ _ (by omega)]
      split
      · rename_i ei;subst ei;exact hv
      · exact Int.le_refl _
     by_cases ej:j=((nth m.roads k).src back).toNat
     · rw[if_pos ej]
       intro _
       refine .inr ⟨k,back,hk,hs,c1,ej.symm,?_⟩
       have:=nd (v:=nth s.1 ((nth m.roads k).dst back).toNat+dZ m k back) (by omega) ((nth m.roads k).dst back).toNat
       omega
     · rw[if_neg ej]
       intro hf
       rcases suc j hj hf with a | ⟨k2,b2,h1,h2,h3,h4,h5⟩
       · exact .inl a
       · refine .inr ⟨k2,b2,h1,h2,h3,h4,?_⟩
         have:=nd (v:=nth s.1 ((nth m.roads k).dst back).toNat+dZ m k back) (by omega) ((nth m.roads k2).dst b2).toNat
         omega
 · exact h
theorem aaJ{m:aK}(hm:m.ok){e:Esc}{q k:Nat}(hk:k<m.roads.length){s:List Int×Bool}(h:uG m e q s.1):uG m e q (rR m e q k s).1:=by
 unfold rR;split
 · exact h
 · rename_i c;exact E8 hm hk c true (E8 hm hk c false h)
theorem zh{m:aK}(hm:m.ok){e:Esc}{q:Nat}{s:List Int×Bool}(h:uG m e q s.1):∀k,k≤m.roads.length→uG m e q (rsR m e q s k).1
 | 0,_=>h
 | k+1,hk=>aaJ hm (by omega) (zh hm h k (by omega))
theorem TZ{gc:Bool}{dead:List Nat}{c:C}{vs:List D}{H:ae}(P:Nat→St→Prop)(n:Nat)(Q:Ex×St→Prop)(h0:P n ⟨ir dead vs,H⟩)
 (hs:∀n st,P n st→(∃st' m,m<n∧iI gc dead st.H.length (exS aG c st)=some st'∧P m st')∨∃q,exS aG c st=some q∧q.1≠ .normal∧Q q):∃q,exS aG (.loop gc dead c) ⟨vs,H⟩=some q∧Q q:=by
 have key:∀(n:Nat) (st:St),P n st→∃q,jy gc dead (exS aG c) st=some q∧Q q:=by
  intro n
  induction n using Nat.strongRecOn with
  | ind n ih=>
    intro st hp
    rcases hs n st hp with⟨st',m,hm,h1,h2⟩ | ⟨q,h1,h2,h3⟩
    · obtain⟨q,h3,h4⟩:=ih m hm st' h2
      exact⟨q,gK h1 h3,h4⟩
    · exact⟨q,c7 h1 h2,h3⟩
 exact key n _ h0
def Hn(l:List Int):Nat:=(l.map Int.toNat).sum
theorem E9:∀ {l:List Int} {i:Nat} {v:Int},i<l.length→0≤v→v<nth l i→Hn (l.set i v)<Hn l
 | [],_,_,h,_,_=>by simp at h
 | a::l,0,v,_,h0,hv=>by
   have:v<a:=hv
   simp only[Hn,List.set_cons_zero,List.map_cons,List.sum_cons]
   omega
 | a::l,i+1,v,h,h0,hv=>by
   have ih:=E9 (l:=l) (i:=i) (v:=v) (by simpa using h) h0 hv
   simp only[Hn,List.set_cons_succ,List.map_cons,List.sum_cons]at ih ⊢
   omega
theorem Kb{m:aK}(hm:m.ok){e:Esc}{q k:Nat}(hk:k<m.roads.length)(back:Bool){s:List Int×Bool}(h:uG m e q s.1):hR m e q k back s=s∨(hR m e q k back s).2=true∧Hn (hR m e q k back s).1<Hn s.1:=by
 unfold hR
 split
 · rename_i c
   right
   obtain⟨c1,c2⟩:=Bool.and_eq_true_iff.1 c
   have c2:=of_decide_eq_true c2
   have c3:=of_decide_eq_true (Bool.and_eq_true_iff.1 c1).1
   have r1:=Road.pL (hm.rs _ (aI hk)) back
   have d0:=h.lo ((nth m.roads k).dst back).toNat
   have ln:=h.len
   exact⟨rfl,E9 (by omega) (by omega) c2⟩
 · exact .inl rfl
theorem aaK{m:aK}(hm:m.ok){e:Esc}{q k:Nat}(hk:k<m.roads.length){s:List Int×Bool}(h:uG m e q s.1):rR m e q k s=s∨(rR m e q k s).2=true∧Hn (rR m e q k s).1<Hn s.1:=by
 unfold rR
 split
 · exact .inl rfl
 · rename_i c
   have i1:=E8 hm hk c false h
   rcases Kb hm hk false h with e1 | ⟨a1,b1⟩
   · rw[e1];exact Kb hm hk true h
   · rcases Kb hm hk true i1 with e2 | ⟨a2,b2⟩
     · rw[e2];exact .inr ⟨a1,b1⟩
     · exact .inr ⟨a2,by omega⟩
theorem C1{m:aK}(hm:m.ok){e:Esc}{q:Nat}{s:List Int×Bool}(h:uG m e q s.1):∀k,k≤m.roads.length→rsR m e q s k=s∨(rsR m e q s k).2=true∧Hn (rsR m e q s k).1<Hn s.1
 | 0,_=> .inl rfl
 | k+1,hk=>by
   have i1:=zh hm h k (by omega)
   rw[rsR]
   rcases aaK hm (by omega:k<m.roads.length) i1 with e1 | ⟨a1,b1⟩
   · rw[e1];exact C1 hm h k (by omega)
   · right
     refine⟨a1,?_⟩
     rcases C1 hm h k (by omega)with e2 | ⟨a2,b2⟩
     · rw[e2]at b1 ⊢;exact b1
     · omega
theorem Nk(m:aK)(e:Esc){q:Nat}(hq:q<m.aa.length):uG m e q ((List.replicate m.aa.length (1152921504606846976:Int)).set q 0):=by
 have n0:∀j,nth (List.replicate m.aa.length (1152921504606846976:Int)) j=if j<m.aa.length then 1152921504606846976 else 0:=fun j=>by
  unfold nth
  rw[aLl,List.getElem?_replicate]
  split<;>rfl
 have n1:∀j,nth ((List.replicate m.aa.length (1152921504606846976:Int)).set q 0) j=if j=q then 0 else if j<m.aa.length then 1152921504606846976 else 0:=fun j=>by
  rw[mO _ _ (by simpa using hq),n0]
 refine⟨by simp,fun j=>?_,fun j=>?_,?_,fun j hj=>?_⟩
 · rw[n1];split
   · omega
   · split<;>omega
 · rw[n1];split
   · omega
   · split<;>omega
 · rw[n1,if_pos rfl]
 · rw[n1]
   split
   · rename_i ej;exact fun _=> .inl ej
   · intro h;omega
theorem Kc{m:aK}(hm:m.ok){e:Esc}(he:e.ok m)(q:Int){x:Int}(hx:0≤x∧x<m.aa.length):
 aG 0 N.aM [I x,.bp 0 0,.bp 1 0,.bp 2 0] [.box [I q],.box (ab m),.box (aC e)]=some (B (C0 m e q x),[.box [I q],.box (ab m),.box (aC e)]):=by
 refine ay K.jN rfl ?_
 have co:=qs e.safe x (by have:=he.sl hm;omega)
 obtain⟨x,rfl⟩:=Int.eq_ofNat_of_zero_le hx.1
 have np:=hm.np
 have pg:=bz Place.e (l:=m.aa) (j:=x) (by omega)
 unfold C0
 rw[Int.toNat_natCast]
 obtain⟨aa,roads⟩:=m
 obtain⟨safe,bad,shut,lim⟩:=e
 simp only[ab,aC]at*
 generalize nth aa x=pl at*
 obtain⟨hgt,surf⟩:=pl
 simp only at*
 by_cases c:(x:Int)=q
 · subst c
   simp(disch:=omega)only[go_sem,K.aM,↓reduceIte,decide_true,Bool.true_or,reduceAdd,reduceSub]
 · cases surf<;>by_cases c2:(x:Int)∈safe
   all_goals (simp only[c2,decide_true,decide_false]at co)
   all_goals simp(disch:=omega)only[go_sem,K.aM,↓reduceIte,pg,co,c,c2,decide_true,decide_false,Bool.true_or,Bool.false_or,Bool.not_true,Bool.not_false,Bool.true_and,Bool.false_and,Bool.and_true,Bool.and_false,reduceAdd,reduceSub]
abbrev r9(r:Road):List D:=[I r.frm,I r.to,I r.len,I r.area,B r.walk,B r.closed,I r.restL,I r.restH,I r.liftL,I r.liftH]
abbrev tmS(m:aK)(e:Esc)(q:Int)(k:Nat)(s:List Int×Bool)(j:Int):St:=⟨[.und,.und,.und,.bp 0 0,.bp 1 0,.und,.und,.fn N.aM [.bp 2 0,.bp 0 0,.bp 1 0],.ref 3 0 m.aa.length,B s.2,I k,.bp 4 0,.und,.und,.und,.und,.t (.sl (m.roads.map Road.e)),I m.roads.length,I k,.t (.agg [.bool false,.bool true]),I j],
 [.box (ab m),.box (aC e),.box [I q],.arr 1 false 0 (ints s.1),.box (r9 (nth m.roads k))]⟩
theorem wN{l:List Int}{j:Nat}(h:j<l.length):(l.map (T.int .i64))[j]?=some (tI (nth l j)):=bz _ h
theorem Kd{m:aK}(hm:m.ok){e:Esc}(he:e.ok m){q k:Nat}(hk:k<m.roads.length){s:List Int×Bool}(h:uG m e q s.1)(back:Bool):
 iI true [0,1,2,5,6,12,13,14,15] 5 (exS aG K.bf (tmS m e q k s (if back then 1 else 0)))=some (tmS m e q k (hR m e q k back s) (if back then 2 else 1)):=by
 have np:=hm.np
 have nr:=hm.nr
 have r1:=Road.pL (hm.rs _ (aI hk)) back
 have r2:=Road.xV (hm.rs _ (aI hk)) back
 have ws:=qE hm k hk back
 have w:=eV hm k hk back
 have pa:=Kc hm he q r2
 have co:=qs e.bad ((nth m.roads k).dst back) (by have:=he.bl hm;omega)
 have ln:=h.len
 have s1:=h.hi ((nth m.roads k).src back).toNat
 have s2:=h.hi ((nth m.roads k).dst back).toNat
 have s3:=h.lo ((nth m.roads k).src back).toNat
 have s4:=h.lo ((nth m.roads k).dst back).toNat
 unfold hR okR
 clear h
 generalize dZ m k back=t at*
 generalize C0 m e q ((nth m.roads k).dst back)=pp at*
 obtain⟨d,ch⟩:=s
 simp only[tmS]at*
 generalize decide ((nth m.roads k).dst back∈e.bad)=bb at*
 obtain⟨aa,roads⟩:=m
 obtain⟨safe,bad,shut,lim⟩:=e
 simp only[ab,aC,r9]at*
 generalize hx:nth roads k=x at*
 obtain⟨frm,to,len,area,walk,closed,rl,rh,ll,lh⟩:=x
 cases back with
 | false=>
   simp only[Road.src,Road.dst,aLt,↓reduceIte]at*
   obtain⟨a,rfl⟩:=Int.eq_ofNat_of_zero_le r1.1
   obtain⟨b,rfl⟩:=Int.eq_ofNat_of_zero_le r2.1
   simp only[Int.toNat_natCast]at*
   have n1:=wN (l:=d) (j:=a) (by omega)
   have n2:=wN (l:=d) (j:=b) (by omega)
   by_cases c1:0≤t
   · cases pp
     · simp(disch:=omega)only[go_sem,K.bf,↓reduceIte,ws,pa,c1,decide_true,Bool.true_and,Bool.false_and,reduceAdd,reduceSub]
     · cases bb
       · by_cases c2:nth d b+t<nth d a
         · simp(disch:=omega)only[go_sem,K.bf,↓reduceIte,ws,pa,co,n1,n2,c1,c2,decide_true,Bool.true_and,Bool.not_false,List.length_set,reduceAdd,reduceSub]
         · simp(disch:=omega)only[go_sem,K.bf,↓reduceIte,ws,pa,co,n1,n2,c1,c2,decide_true,decide_false,Bool.true_and,Bool.and_false,Bool.not_false,reduceAdd,reduceSub]
       · simp(disch:=omega)only[go_sem,K.bf,↓reduceIte,ws,pa,co,c1,decide_true,Bool.true_and,Bool.and_false,Bool.false_and,Bool.not_true,reduceAdd,reduceSub]
   · simp(disch:=omega)only[go_sem,K.bf,↓reduceIte,ws,pa,c1,decide_false,Bool.false_and,reduceAdd,reduceSub]
 | true=>
   simp only[Road.src,Road.dst,aLt,↓reduceIte]at*
   obtain⟨a,rfl⟩:=Int.eq_ofNat_of_zero_le r1.1
   obtain⟨b,rfl⟩:=Int.eq_ofNat_of_zero_le r2.1
   simp only[Int.toNat_natCast]at*
   have n1:=wN (l:=d) (j:=a) (by omega)
   have n2:=wN (l:=d) (j:=b) (by omega)
   by_cases c1:0≤t
   · cases pp
     · simp(disch:=omega)only[go_sem,K.bf,↓reduceIte,ws,pa,c1,decide_true,Bool.true_and,Bool.false_and,Int.reduceAdd,reduceAdd,reduceSub]
     · cases bb
       · by_cases c2:nth d b+t<nth d a
         · simp(disch:=omega)only[go_sem,K.bf,↓reduceIte,ws,pa,co,n1,n2,c1,c2,decide_true,Bool.true_and,Bool.not_false,List.length_set,Int.reduceAdd,reduceAdd,reduceSub]
         · simp(disch:=omega)only[go_sem,K.bf,↓reduceIte,ws,pa,co,n1,n2,c1,c2,decide_true,decide_false,Bool.true_and,Bool.and_false,Bool.not_false,Int.reduceAdd,reduceAdd,reduceSub]
       · simp(disch:=omega)only[go_sem,K.bf,↓reduceIte,ws,pa,co,c1,decide_true,Bool.true_and,Bool.and_false,Bool.false_and,Bool.not_true,Int.reduceAdd,reduceAdd,reduceSub]
   · simp(disch:=omega)only[go_sem,K.bf,↓reduceIte,ws,pa,c1,decide_false,Bool.false_and,Int.reduceAdd,reduceAdd,reduceSub]
end Go.Ev
