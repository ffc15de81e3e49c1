/- Parts of the proof: see the text that holds the theorem. -/
import Derived.Test.YtljlbkjecjloaaaGreatZ4
set_option linter.all false
set_option maxRecDepth 100000
namespace Go.Ev
open Go
variable [Lib] [cn] [bS]
section
variable {m : aT} (hm : m.ok) {N : Nat} {b : Bel} (hb : BOk m N b) {s : Wh} (hs : s.frm.length = m.places.length) {l : List Mch}
variable (hl : ∀ y ∈ l, y.pl.length ≤ m.places.length ∧ 1 ≤ y.pl.length ∧ ∀ x ∈ y.pl, 0 ≤ x ∧ x < m.places.length) {t a : Int} (t0 : 0 ≤ t) (t1 : t ≤ 10000) (a0 : 0 ≤ a) (a1 : a ≤ 10000) (d : aC)
include hm hb hs hl t0 t1 a0 a1
omit hm hb t0 t1 a1 in
end
def aC.skip(d:aC)(n:Int):Nat→aC
 | 0=>d
 | k+1=>((d.skip n k).next n).2
end Go.Ev
namespace Go.Ev
open Go
variable [Lib] [cn] [bS] [lU]
theorem Hd(s:Wh)(t:Int)(k:Nat)(hk:k<s.frm.length):aN 0 N.bF [I k,.bp 0 0,.bp 1 0] [.box [I s.time,.t (tL s.frm)],.box [I t]]=some (B (decide (nth s.frm k≤t)),[.box [I s.time,.t (tL s.frm)],.box [I t]]):=by
 refine ax K.jD rfl ?_
 simp (disch:=omega) only[go_sem,K.bF,↓reduceIte,Nat.reduceAdd,Nat.reduceSub]
theorem Kb(s:Wh)(t:Int)(hl:s.frm.length≤1000000):aN 0 N.cM [.t s.e,I t] []=some (.t (tL (jS s t)),[]):=by
 refine ax K.kP rfl ?_
 have wh:=LY s.frm.length hl N.bF [[tI s.time,tL s.frm],[tI t]] (fun k=>decide (nth s.frm k≤t)) (fun k hk=>Hd s t k hk)
 have wh:aN 0 N.dK [I s.frm.length,.fn N.bF [.bp 0 0,.bp 1 0]] [.box [I s.time,.t (tL s.frm)],.box [I t]]=some (.t (tL (jS s t)),[.box [I s.time,.t (tL s.frm)],.box [I t]]):=wh
 obtain⟨time,frm⟩:=s
 simp only at hl wh
 generalize jS ⟨time,frm⟩ t=r at*
 simp (disch:=omega) only[go_sem,K.cM,↓reduceIte,wh,Nat.reduceAdd,Nat.reduceSub]
end Go.Ev
namespace Go.Ev
open Go
variable [Lib] [cn] [bS] [iE] [iv] [lU] [gV] [gW] [kt] [iJ]
theorem AR(a b:List Int):∀n j,j<n→nth (zz a b n) j=min (nth a j) (nth b j)
 | 0,j,h=>by omega
 | n+1,j,h=>by
   have ln:=kU a b n
   by_cases e:j=n
   · subst e
     exact bB (by simp only[zz];rw[List.getElem?_append_right (by omega),ln];simp)
   · have ih:=AR a b n j (by omega)
     rw[← ih]
     have:(zz a b n)[j]?=some (nth (zz a b n) j):=jv (by omega)
     exact bB (by simp only[zz];rw[List.getElem?_append_left (by omega)];exact this)
theorem He{m:aT}(h:m.ok){a b:Wh}(ha:cL m a=true)(hb:cL m b=true):(iR a b).2=0∧cL m (iR a b).1=true∧(iR a b).1.frm.length=m.places.length∧∀j,j<m.places.length→nth (iR a b).1.frm j=min (nth a.frm j) (nth b.frm j):=by
 obtain⟨a1,a2,a3, -⟩:=bZ ha
 obtain⟨b1,b2,b3, -⟩:=bZ hb
 have ca:=yc h ha
 have cb:=yc h hb
 have e:iR a b=(⟨max a.time b.time,zz a.frm b.frm a.frm.length⟩,0):=by unfold iR;rw[if_pos (by omega)]
 rw[e]
 have mn:=fun j (hj:j<m.places.length)=>AR a.frm b.frm a.frm.length j (by omega)
 refine⟨rfl,yb h (by simp only[kU];exact a1) (by unfold inT at *;simp only;omega) (fun x hx=>?_) ?_,by simp only[kU];exact a1,mn⟩
 · obtain⟨j,hj⟩:=List.mem_iff_getElem?.1 hx
   have jl:=(List.getElem?_eq_some_iff.1 hj).1
   simp only[kU]at jl
   have:=mn j (by omega)
   rw[bB hj]at this
   have x1:=a3 _ (aa (l:=a.frm) (j:=j) jl)
   have x2:=b3 _ (aa (l:=b.frm) (j:=j) (by omega))
   unfold plT inT at*
   omega
 · intro k hk back hi h1 h2 h3
   have r1:=Road.vH (h.rs _ (aa hk)) back
   have r2:=Road.zv (h.rs _ (aa hk)) back
   simp only at h2 h3 ⊢
   rw[mn _ (by omega)]at h2 h3 ⊢
   rw[mn _ (by omega)]
   have y1:=ca k hk back rfl h1
   have y2:=cb k hk back rfl h1
   omega
theorem Kc{m:aT}(h:m.ok){w:Wh}(hv:cL m w=true)(l:List Int)(a b bl:Int):
 (zy m w l a b bl=(⟨b,cD m b none (cD m (b-bl) (some l) (D4 w.frm l l.length))⟩,0)∧ka m w l a b=0∧w.time≤b∧max a w.time<b-bl∧inT bl∧
  (cD m (b-bl) (some l) (D4 w.frm l l.length)).length=m.places.length∧(∀x∈cD m (b-bl) (some l) (D4 w.frm l l.length),plT x))∨
 ((zy m w l a b bl).1=w∧((zy m w l a b bl).2=0→w.time≤b∧ka m w l a b=0)):=by
 by_cases c0:ka m w l a b=0
 · obtain⟨-,h0,hs,ia,ib,hab⟩:=mb c0
   by_cases c1:inT bl
   · by_cases c2:b<w.time
     · right;unfold zy;rw[if_neg (by simpa using c0),if_neg (fun x=>x c1),if_pos c2];exact⟨rfl,by simp⟩
     · by_cases c3:b-max a w.time≤bl
       · right;unfold zy;rw[if_neg (by simpa using c0),if_neg (fun x=>x c1),if_neg c2,if_pos c3];exact⟨rfl,fun _=>⟨by omega,c0⟩⟩
       · left
         obtain⟨v1,v2,v3, -⟩:=bZ hv
         have pl:∀x∈D4 w.frm l l.length,plT x:=by
          have key:∀k,∀x∈D4 w.frm l k,plT x:=by
           intro k
           induction k with
           | zero=>exact v3
           | succ k ih=>
             intro x hx
             rcases List.mem_or_eq_of_mem_set hx with hx | hx
             · exact ih x hx
             · exact .inl hx
          exact key _
         have bn:bnd (D4 w.frm l l.length):=fun x hx=>kH (pl x hx)
         unfold inT at ia c1 v2 ib
         refine⟨?_,c0,by omega,by omega,c1,(ue h (by rw[ud];exact v1) bn).1,zB h plT (by rw[ud];exact v1) bn pl (fun x h1 h2=> .inr ⟨by omega,h2⟩)⟩
         unfold zy;rw[if_neg (by simpa using c0),if_neg (fun x=>x (by unfold inT;omega)),if_neg c2,if_neg c3]
   · right;unfold zy;rw[if_neg (by simpa using c0),if_pos c1];exact⟨rfl,by simp⟩
 · right;unfold zy;rw[if_pos c0];exact⟨rfl,fun h=>absurd h c0⟩
theorem Kd{m:aT}(h:m.ok){w:Wh}(hv:cL m w=true)(l:List Int)(a b bl:Int):cL m (zy m w l a b bl).1=true:=by
 rcases Kc h hv l a b bl with⟨e,c0, -,hm,hbl,ln,pl⟩ | ⟨e, -⟩
 · obtain⟨-, -,hs,ia,ib,hab⟩:=mb c0
   rw[e]
   exact pD h ln pl (by unfold inT at ib;omega) (Int.le_refl _) ib
 · rw[e];exact hv
end Go.Ev
namespace Go.Ev
open Go
variable [Lib] [cn] [bS] [iE] [iv] [lU] [gV] [gW] [kt] [iJ] [hX] [fT]
def lexB:List Int→List Int→Bool
 | _,[]=>false
 | [],_::_=>true
 | a::r,b::s=>decide (a<b)||(decide (a=b)&&lexB r s)
theorem ux(a:Int)(l:List Int)(j:Nat):nth (a::l) (j+1)=nth l j:=by simp[nth]
theorem uy(a:Int)(l:List Int):nth (a::l) 0=a:=by simp[nth]
theorem nD:∀a b:List Int,qL a b=lexB a b
 | a,[]=>by
   unfold qL lexB
   simp
 | [],b::s=>by
   unfold qL lexB
   simp
 | a::r,b::s=>by
   have ih:=nD r s
   unfold qL at ih ⊢
   have e:min (a::r).length (b::s).length=min r.length s.length+1:=by simp only[List.length_cons];omega
   rw[e,List.range_succ_eq_map,List.find?_cons]
   simp only[uy]
   by_cases h:a=b
   · subst h
     simp only[ne_eq,not_true_eq_false,decide_false,Bool.false_eq_true,List.find?_map,lexB,decide_true,Bool.true_and,Int.lt_irrefl,Bool.false_or]
     rw[← ih]
     have:((fun j=>decide (¬nth (a::r) j=nth (a::s) j)) ∘ Nat.succ)=fun j=>decide (nth r j≠nth s j):=by
      funext j
      simp only[Function.comp,Nat.succ_eq_add_one,ux,ne_eq]
     rw[this]
     cases (List.range (min r.length s.length)).find? (fun j=>decide (nth r j≠nth s j))with
     | some j=>simp only[Option.map_some,Nat.succ_eq_add_one,ux]
     | none=>simp only[Option.map_none,List.length_cons,Nat.add_lt_add_iff_right]
   · simp only[ne_eq,h,not_false_eq_true,decide_true,lexB,decide_false,Bool.false_and,Bool.or_false,uy]
theorem lex_trans:∀ {a b c:List Int},lexB a b=true→lexB b c=true→lexB a c=true
 | _,_,[],_,h=>by simp[lexB]at h
 | [],_,_::_,_,_=>rfl
 | _::_,[],_,h,_=>by simp[lexB]at h
 | a::r,b::s,c::t,h1,h2=>by
   simp only[lexB,Bool.or_eq_true,Bool.and_eq_true,decide_eq_true_eq]at h1 h2 ⊢
   rcases h1 with h1 | ⟨h1,k1⟩
   · rcases h2 with h2 | ⟨h2,k2⟩
     · left;omega
     · left;omega
   · rcases h2 with h2 | ⟨h2,k2⟩
     · left;omega
     · right;exact⟨by omega,lex_trans k1 k2⟩
theorem lex_irrefl:∀a:List Int,lexB a a=false
 | []=>rfl
 | a::r=>by simp[lexB,lex_irrefl r]
theorem mY:∀a b:List Int,lexB a b=true∨a=b∨lexB b a=true
 | [],[]=> .inr (.inl rfl)
 | [],_::_=> .inl rfl
 | _::_,[]=> .inr (.inr rfl)
 | a::r,b::s=>by
   simp only[lexB,Bool.or_eq_true,Bool.and_eq_true,decide_eq_true_eq,List.cons.injEq]
   rcases mY r s with h | h | h
   · by_cases c:a<b
     · exact .inl (.inl c)
     · by_cases c2:a=b
       · exact .inl (.inr ⟨c2,h⟩)
       · exact .inr (.inr (.inl (by omega)))
   · by_cases c:a<b
     · exact .inl (.inl c)
     · by_cases c2:a=b
       · exact .inr (.inl ⟨c2,h⟩)
       · exact .inr (.inr (.inl (by omega)))
   · by_cases c:a<b
     · exact .inl (.inl c)
     · by_cases c2:a=b
       · exact .inr (.inr (.inr ⟨c2.symm,h⟩))
       · exact .inr (.inr (.inl (by omega)))
structure WV(m:aT)(first:List Int)(x:World):Prop where
 pm:x.tags.Perm first
 wl:x.whr.length=first.length
 wv:∀w∈x.whr,cL m w=true
structure BV(m:aT)(first:List Int)(ws:List World):Prop where
 pr:eC first=true
 f1:1≤first.length
 f2:first.length≤12
 wv:∀x∈ws,WV m first x
 up:ws.Pairwise fun x y=>lexB x.tags y.tags=true
theorem Es{a b:List Int}(h:a.Perm b)(hb:eC b=true):eC a=true:=by
 rw[yy]at hb ⊢
 exact⟨h.nodup_iff.2 hb.1,fun x hx=>hb.2 x (h.mem_iff.1 hx)⟩
theorem BV.bel{m:aT}{first:List Int}{ws:List World}(h:BV m first ws)(h1:1≤ws.length)(h2:ws.length≤24):qf m ⟨ws⟩=true:=by
 have w0:=h.wv _ (aa (l:=ws) (j:=0) (by omega))
 have l0:=w0.pm.length_eq
 simp only[qf,Bool.and_eq_true,decide_eq_true_eq,List.all_eq_true,List.mem_range,oJ,Bool.or_eq_true,HU]
 have f1:=h.f1
 have f2:=h.f2
 refine⟨⟨⟨h1,h2⟩,by omega⟩,fun i hi=>?_⟩
 have wi:=h.wv _ (aa (l:=ws) (j:=i) hi)
 have li:=wi.pm.length_eq
 have wl:=wi.wl
 refine⟨⟨⟨by omega,Es wi.pm h.pr⟩,?_⟩,fun k hk=>⟨?_,?_⟩⟩
 · by_cases c:i=0
   · exact .inl c
   · right
     rw[nD]
     have:=(List.pairwise_iff_getElem.1 h.up) (i-1) i (by omega) hi (by omega)
     rwa [← bB (List.getElem?_eq_getElem (by omega:i-1<ws.length)),←bB (List.getElem?_eq_getElem hi)]at this
 · exact kR.2 (w0.pm.symm.mem_iff.1 (wi.pm.mem_iff.1 (aa hk)))
 · exact wi.wv _ (aa (by omega))
theorem wC{m:aT}{ws:List World}(h:qf m ⟨ws⟩=true):BV m (nth ws 0).tags ws:=by
 obtain⟨h1,h2,h3,h4,h5⟩:=fN h
 simp only at h1 h2 h3 h4 h5
 have p0:=(gE (h5 0 (by omega))).2.2.1
 refine⟨p0,h3,h4,fun x hx=>?_,?_⟩
 · obtain⟨i,hi⟩:=List.mem_iff_getElem?.1 hx
   have il:=(List.getElem?_eq_some_iff.1 hi).1
   obtain⟨w1,w2,w3,w4⟩:=gE (h5 i il)
   rw[bB hi]at w1 w2 w3 w4
   refine⟨r5 (iT w3) (iT p0) w1 fun y hy=>?_,w2,fun w hw=>?_⟩
   · obtain⟨j,hj⟩:=List.mem_iff_getElem?.1 hy
     have:=(w4 j (List.getElem?_eq_some_iff.1 hj).1).1
     rwa [bB hj]at this
   · obtain⟨j,hj⟩:=List.mem_iff_getElem?.1 hw
     have:=(w4 j (by rw[w1,←w2];exact(List.getElem?_eq_some_iff.1 hj).1)).2
     rwa [bB hj]at this
 · have key:∀d i,i+d+1<ws.length→lexB (nth ws i).tags (nth ws (i+d+1)).tags=true:=by
    intro d
    induction d with
    | zero=>
      intro i hi
      have:=h5 (i+1) hi
      simp only[oJ,Bool.and_eq_true,Bool.or_eq_true,decide_eq_true_eq]at this
      have:=this.1.2
      rw[← nD]
      simpa using this
    | succ d ih=>
      intro i hi
      have a:=ih i (by omega)
      have:=h5 (i+(d+1)+1) hi
      simp only[oJ,Bool.and_eq_true,Bool.or_eq_true,decide_eq_true_eq]at this
      have b:=this.1.2.resolve_left (by omega)
      rw[nD,show i+(d+1)+1-1=i+d+1 by omega]at b
      exact lex_trans a b
   rw[List.pairwise_iff_getElem]
   intro i j hi hj hij
   have:=key (j-i-1) i (by omega)
   rw[show i+(j-i-1)+1=j by omega,bB (List.getElem?_eq_getElem hi),bB (List.getElem?_eq_getElem hj)]at this
   exact this
end Go.Ev
namespace Go.Ev.K
open Go.Ev
end Go.Ev.K
namespace Go.Ev
class qb [Lib]:Prop where
namespace K
variable [Lib] [qb]
end K
end Go.Ev
namespace Go.Ev.K
open Go.Ev
def yz:C:=(.its [u (.bin .lss v7 v6)] [] 0 .skip (.exit 0) (.seq (.blk 1 (.seq (.reg [a 2 v5 v7,h 2 l0,w 4 (.al [.t (.int .i64 (0)),.nil] []),u (.st l0 l1 2 [])] []) (.reg [f 1 v3,g l0,f 0 v4,g l0,f 1 v4,g l0,u (.ca N.aU 0 [] [.l 0]),u (.bd [.t (.int .i64 (0)),.nil] [(0,1,.l 3),(1,1,.l 0)]),u (.bs [.l 0] 2),u (.app l7 l0 true 2),f 1 v3,u (.st l0 l1 1 [])] [(1,7),(1,9),(3,7)]))) (.reg [u (.bin .add v7 (.i 1)),w 7 (.mv l0)] [])))
def yT:C:= .loop true [0,1,4] K.yz
def jz:Fn:={ nargs:=1,vars:=[0,1,2,3,5,11,12,13],body:=(.seq (.reg [w 1 (.bx v0 2),w 2 (.al [.nil,.nil] [])] []) (.seq (.reg [f 0 v1,g l0,u (.ca N.aU 0 [] [.l 0]),u (.bd [.nil,.nil] [(0,1,.l 0)]),w 3 (.al [.nil,.nil] [(1,2)]),u (.st l0 l1 2 [(1,2)])] []) (.seq (.seq (.reg [f 1 v1,w 5 (.ld l0 1 false),w 6 (.ln l0),w 7 (.mv (.i 0))] []) (.blk 0 K.yT)) (.seq (.reg [h 2 v3,u (.st v2 l0 2 [])] []) .ret)))),res:=[(2,some (2,true))]}
def mZ:C:=(.its [u (.bin .lss v11 v10)] [] 0 .skip (.exit 2) (.seq (.blk 3 (.seq (.reg [m v11,w 6 (.mv l0)] []) (.reg [m v3,m v5,u (.bin .sub l0 (.i 1)),a 2 l2 l0,f 1 l0,g l0,m v6,m v3,m v5,u (.bin .sub l0 (.i 1)),a 2 l2 l0,f 1 l0,g l0,m v6,a 2 l1 l0,h 2 l0,f 1 v4,g l0,m v6,a 2 l1 l0,h 2 l0,u (.ca N.fg 0 [] [.l 5,.l 0]),m l0,u (.ex l0 0),u (.ex l1 1),a 2 (.l 19) (.l 18),u (.st l0 l2 2 [])] [(3,22),(5,22)]))) (.reg [u (.bin .add v11 (.i 1)),w 11 (.mv l0)] [])))
def r6:C:= .loop false [0,1,2,6] K.mZ
def gv:C:=(.its [u (.bin .lss v9 v8)] [] 0 .skip (.exit 0) (.seq (.blk 1 (.seq (.reg [a 2 v7 v9,h 2 l0,w 4 (.al [.nil,.nil] []),u (.st l0 l1 2 [])] []) (.seq (.seq (.reg [m v3,u (.ln l0),w 5 (.mv l0)] []) (.ite [m v5,u (.bin .gtr l0 (.i 0)),m l0,y 0 true (.mv v3),y 1 true (.mv v5),y 2 true (.bin .sub l0 (.i 1)),y 3 true (.ia l2 l0 2),y 4 true (.fa l0 0),y 5 true (.ld l0 1 false),y 6 true (.fa v4 0),y 7 true (.ld l0 1 false),y 8 true (.ca N.aX 0 [] [.l 2,.l 0]),u (.pk l9 l0 (.b false))] [] 0 (.seq (.seq (.reg [f 1 v4,g l0,w 10 (.ln l0),w 11 (.mv (.i 0))] []) (.blk 2 K.r6)) (.exit 1)) .skip)) (.reg [m v3,h 2 v4,u (.ca N.cQ 1 [] [.l 0]),u (.bsr [.l 0] 2),u (.app l3 l0 false 2),w 3 (.mv l0)] [])))) (.reg [u (.bin .add v9 (.i 1)),w 9 (.mv l0)] [])))
def r7:C:= .loop false [0,1,2,4,5,6,10,11] K.gv
def fS:Fn:={ nargs:=1,vars:=[0,2,3,4,6,7,8,12,13,14,35,36],body:=(.seq (.reg [w 1 (.mv (.c (.nil)))] []) (.seq (.reg [m v0,u (.ca N.aI 0 [] [.l 0]),u (.ca N.aH 0 [] [.l 0,.c (.fn N.a8 [])]),w 2 (.mv l0)] []) (.seq (.reg [w 3 (.nw 2)] []) (.seq (.seq (.reg [w 7 (.mv v2),w 8 (.ln l0),w 9 (.mv (.i 0))] []) (.blk 0 K.r7)) (.seq (.reg [m v3,w 1 (.mv l0)] []) .ret))))),res:=[(1,none)]}
def aH:Fn:={ nargs:=2,vars:=[0,1,4,5],body:=(.seq (.reg [w 2 (.mv (.c (.nil)))] []) (.seq (.reg [m v0,u (.ca N.bq 1 [] [.l 0]),w 3 (.mv l0)] []) (.seq (.reg [m v3,m v1,u (.ca N.az 0 [0] [.l 1,.l 0])] []) (.seq (.reg [m v3,w 2 (.mv l0)] []) .ret)))),res:=[(2,none)]}
def aI:Fn:={ nargs:=1,vars:=[0,1,2],body:=(.seq (.reg [w 1 (.bx v0 1),w 2 (.mv (.c (.und)))] []) (.seq (.reg [u (.mf N.ak [.v 1]),w 2 (.mv l0)] []) .ret)),res:=[(2,none)]}
def a8:Fn:={ nargs:=2,vars:=[0,1,2,3,4],body:=(.seq (.reg [w 2 (.bx v0 2),w 3 (.bx v1 2),w 4 (.mv (.i 0))] []) (.seq (.reg [f 0 v2,g l0,f 0 v3,g l0,u (.ca N.aP 0 [] [.l 2,.l 0]),w 4 (.mv l0)] []) .ret)),res:=[(4,none)]}
def bq:Fn:={ nargs:=1,vars:=[2],body:= .fail,res:=[(0,none)],prim:=[3,N.ak]}
def az:Fn:={ nargs:=2,vars:=[0,1],body:=(.reg [m v0,m v0,u (.ln l0),m v1,u (.ca N.aO 0 [0] [.l 3,.l 1,.l 0])] []),res:=[]}
def iG:C:=(.its [u (.bin .lss v5 v4)] [] 0 .skip (.exit 0) (.seq (.blk 1 (.seq (.reg [a 2 v3 v5,h 2 l0,w 2 (.al [.nil,.nil] []),u (.st l0 l1 2 [])] []) (.ite [m v0,h 2 v2,u (.cw l1 0 [] [.l 0]),u (.un .not l0)] [] 0 .ret .skip))) (.reg [u (.bin .add v5 (.i 1)),w 5 (.mv l0)] [])))
def iV:C:= .loop true [1,2] K.iG
def ak:Fn:={ nargs:=2,vars:=[0,1,4,5,6,7],body:=(.seq (.reg [w 3 (.ld v1 1 false),w 4 (.ln l0),w 5 (.mv (.i 0))] []) (.blk 0 K.iV)),res:=[]}
def fv:C:=(.seq (.ite [m v5,m v1,u (.bin .leq l1 l0)] [] 0 .skip (.exit 0)) (.blk 1 (.seq (.reg [m v0,m v4,m v5,m v2,u (.ca N.ay 0 [0] [.l 3,.l 2,.l 1,.l 0])] []) (.seq (.reg [m v5,w 4 (.mv l0)] []) (.reg [m v5,m v3,u (.bin .add l1 l0),w 5 (.mv l0)] [])))))
def fO:C:= .loop true [6] K.fv
def jT:C:=(.seq (.ite [m v5,m v1,u (.bin .leq l1 l0)] [] 0 .skip (.exit 4)) (.blk 5 (.seq (.reg [m v0,m v4,m v4,m v3,u (.bin .add l1 l0),m v5,m v2,u (.ca N.aE 0 [0] [.l 6,.l 5,.l 2,.l 1,.l 0])] []) (.seq (.reg [m v5,w 4 (.mv l0)] []) (.reg [m v5,m v3,u (.bin .mul (.i 2) l0),u (.bin .add l2 l0),w 5 (.mv l0)] [])))))
def kj:C:= .loop true [6] K.jT
def fw:C:=(.seq (.ite [m v3,m v1,u (.bin .lss l1 l0)] [] 0 .skip (.exit 2)) (.blk 3 (.seq (.reg [m v3,u (.bin .mul (.i 2) l0),w 4 (.mv (.i 0)),w 5 (.mv l1)] []) (.seq (.blk 4 K.kj) (.seq (.seq (.reg [m v4,m v3,u (.bin .add l1 l0),w 6 (.mv l0)] []) (.ite [m v6,m v1,u (.bin .lss l1 l0)] [] 0 (.reg [m v0,m v4,m v6,m v1,m v2,u (.ca N.aE 0 [0] [.l 4,.l 3,.l 2,.l 1,.l 0])] []) .skip)) (.reg [m v3,u (.bin .mul l0 (.i 2)),w 3 (.mv l0)] []))))))
def fP:C:= .loop true [4,5,6] K.fw
def aO:Fn:={ nargs:=3,vars:=[0,1,2,6,7,8,9],body:=(.seq (.reg [w 3 (.mv (.i 20))] []) (.seq (.reg [m v3,w 4 (.mv (.i 0)),w 5 (.mv l1)] []) (.seq (.blk 0 K.fO) (.seq (.reg [m v0,m v4,m v1,m v2,u (.ca N.ay 0 [0] [.l 3,.l 2,.l 1,.l 0])] []) (.blk 2 K.fP))))),res:=[]}
def aL:C:=(.seq (.ite [m v5,m v1,u (.bin .gtr l1 l0),m l0,y 0 true (.mv v3),y 1 true (.mv v0),y 2 true (.mv v5),y 3 true (.ia l1 l0 2),y 4 true (.ld l0 2 true),y 5 true (.mv v0),y 6 true (.mv v5),y 7 true (.bin .sub l0 (.i 1)),y 8 true (.ia l2 l0 2),y 9 true (.ld l0 2 true),y 10 true (.cw l9 0 [] [.l 5,.l 0]),y 11 true (.bin .lss l0 (.i 0)),u (.pk (.l 12) l0 (.b false))] [] 0 .skip (.exit 2)) (.seq (.blk 3 (.reg [m v0,m v5,m v0,m v5,u (.bin .sub l0 (.i 1)),m v0,m v5,u (.bin .sub l0 (.i 1)),a 2 l2 l0,h 2 l0,m v0,m v5,a 2 l1 l0,h 2 l0,a 2 (.l 13) (.l 12),u (.st l0 l5 2 []),a 2 (.l 13) l11,u (.st l0 l3 2 [])] [])) (.reg [m v5,u (.bin .sub l0 (.i 1)),w 5 (.mv l0)] [])))
def dR:C:= .loop true [] K.aL
def aW:C:=(.seq (.ite [m v4,m v2,u (.bin .lss l1 l0)] [] 0 .skip (.exit 0)) (.seq (.blk 1 (.seq (.reg [m v4,w 5 (.mv l0)] []) (.blk 2 K.dR))) (.reg [m v4,u (.bin .add l0 (.i 1)),w 4 (.mv l0)] [])))
def b6:C:= .loop true [5] K.aW
def ay:Fn:={ nargs:=4,vars:=[0,1,2,3,8,9],body:=(.seq (.reg [m v1,u (.bin .add l0 (.i 1)),w 4 (.mv l0)] []) (.blk 0 K.b6)),res:=[]}
def jh:C:=(.seq (.ite [m v5,m v6,u (.bin .lss l1 l0)] [] 0 .skip (.exit 0)) (.blk 1 (.seq (.reg [m v5,m v6,u (.bin .add l1 l0),u (.cv .u64 l0),u (.bin .shr l0 (.c (.t (.int .u64 (1))))),u (.cv .i64 l0),w 7 (.mv l0)] []) (.ite [m v4,m v0,m v7,a 2 l1 l0,h 2 l0,m v0,m v1,a 2 l1 l0,h 2 l0,u (.cw l8 0 [] [.l 4,.l 0]),u (.bin .lss l0 (.i 0))] [] 0 (.reg [m v7,u (.bin .add l0 (.i 1)),w 5 (.mv l0)] []) (.reg [m v7,w 6 (.mv l0)] [])))))
def jF:C:= .loop true [2,3,7,8,9,10,11,12,13,14,15,16,17,18,19] K.jh
def ji:C:=(.seq (.ite [m v8,m v5,u (.bin .sub l0 (.i 1)),u (.bin .lss l2 l0)] [] 0 .skip (.exit 2)) (.seq (.blk 3 (.reg [m v0,m v8,m v0,m v8,u (.bin .add l0 (.i 1)),m v0,m v8,u (.bin .add l0 (.i 1)),a 2 l2 l0,h 2 l0,m v0,m v8,a 2 l1 l0,h 2 l0,a 2 (.l 13) (.l 12),u (.st l0 l5 2 []),a 2 (.l 13) l11,u (.st l0 l3 2 [])] [])) (.reg [m v8,u (.bin .add l0 (.i 1)),w 8 (.mv l0)] [])))
def jG:C:= .loop true [1,2,3,4,6,7,9,10,11,12,13,14,15,16,17,18,19] K.ji
def jj:C:=(.seq (.ite [m v9,m v10,u (.bin .lss l1 l0)] [] 0 .skip (.exit 4)) (.blk 5 (.seq (.reg [m v9,m v10,u (.bin .add l1 l0),u (.cv .u64 l0),u (.bin .shr l0 (.c (.t (.int .u64 (1))))),u (.cv .i64 l0),w 11 (.mv l0)] []) (.ite [m v4,m v0,m v2,a 2 l1 l0,h 2 l0,m v0,m v11,a 2 l1 l0,h 2 l0,u (.cw l8 0 [] [.l 4,.l 0]),u (.bin .lss l0 (.i 0)),u (.un .not l0)] [] 0 (.reg [m v11,u (.bin .add l0 (.i 1)),w 9 (.mv l0)] []) (.reg [m v11,w 10 (.mv l0)] [])))))
def jH:C:= .loop true [1,3,5,6,7,8,11,12,13,14,15,16,17,18,19] K.jj
def jk:C:=(.seq (.ite [m v12,m v9,u (.bin .gtr l1 l0)] [] 0 .skip (.exit 6)) (.seq (.blk 7 (.reg [m v0,m v12,m v0,m v12,u (.bin .sub l0 (.i 1)),m v0,m v12,u (.bin .sub l0 (.i 1)),a 2 l2 l0,h 2 l0,m v0,m v12,a 2 l1 l0,h 2 l0,a 2 (.l 13) (.l 12),u (.st l0 l5 2 []),a 2 (.l 13) l11,u (.st l0 l3 2 [])] [])) (.reg [m v12,u (.bin .sub l0 (.i 1)),w 12 (.mv l0)] [])))
def jI:C:= .loop true [1,2,3,4,5,6,7,8,10,11,13,14,15,16,17,18,19] K.jk
def jm:C:=(.seq (.ite [m v15,m v16,u (.bin .lss l1 l0)] [] 0 .skip (.exit 8)) (.blk 9 (.seq (.reg [m v15,m v16,u (.bin .add l1 l0),u (.cv .u64 l0),u (.bin .shr l0 (.c (.t (.int .u64 (1))))),u (.cv .i64 l0),w 18 (.mv l0)] []) (.ite [m v4,m v0,m v17,m v18,u (.bin .sub l1 l0),a 2 l3 l0,h 2 l0,m v0,m v18,a 2 l1 l0,h 2 l0,u (.cw l10 0 [] [.l 4,.l 0]),u (.bin .lss l0 (.i 0)),u (.un .not l0)] [] 0 (.reg [m v18,u (.bin .add l0 (.i 1)),w 15 (.mv l0)] []) (.reg [m v18,w 16 (.mv l0)] [])))))
def jJ:C:= .loop true [5,6,7,8,9,10,11,12,18,19] K.jm
def aE:Fn:={ nargs:=5,vars:=[0,1,2,3,4,10,11,12,13,14,15,16,17,18,19,20,21,22,23,24],body:=(.seq (.ite [m v2,m v1,u (.bin .sub l1 l0),u (.bin .eql l0 (.i 1))] [] 0 (.seq (.reg [m v2,w 5 (.mv l0)] []) (.seq (.reg [m v3,w 6 (.mv l0)] []) (.seq (.blk 0 K.jF) (.seq (.seq (.reg [m v1,w 8 (.mv l0)] []) (.blk 2 K.jG)) .ret)))) .skip) (.seq (.ite [m v3,m v2,u (.bin .sub l1 l0),u (.bin .eql l0 (.i 1))] [] 0 (.seq (.reg [m v1,w 9 (.mv l0)] []) (.seq (.reg [m v2,w 10 (.mv l0)] []) (.seq (.blk 4 K.jH) (.seq (.seq (.reg [m v2,w 12 (.mv l0)] []) (.blk 6 K.jI)) .ret)))) .skip) (.seq (.reg [m v1,m v3,u (.bin .add l1 l0),u (.cv .u64 l0),u (.bin .shr l0 (.c (.t (.int .u64 (1))))),u (.cv .i64 l0),w 13 (.mv l0)] []) (.seq (.reg [m v13,m v2,u (.bin .add l1 l0),w 14 (.mv l0)] []) (.seq (.reg [w 15 (.mv (.i 0)),w 16 (.mv (.i 0))] []) (.seq (.ite [m v2,m v13,u (.bin .gtr l1 l0)] [] 0 (.seq (.reg [m v14,m v3,u (.bin .sub l1 l0),w 15 (.mv l0)] []) (.reg [m v13,w 16 (.mv l0)] [])) (.seq (.reg [m v1,w 15 (.mv l0)] []) (.reg [m v2,w 16 (.mv l0)] []))) (.seq (.reg [m v14,u (.bin .sub l0 (.i 1)),w 17 (.mv l0)] []) (.seq (.blk 8 K.jJ) (.seq (.reg [m v14,m v15,u (.bin .sub l1 l0),w 19 (.mv l0)] []) (.seq (.ite [m v15,m v2,u (.bin .lss l1 l0),m l0,y 0 true (.mv v2),y 1 true (.mv v19),y 2 true (.bin .lss l1 l0),u (.pk l3 l0 (.b false))] [] 0 (.reg [m v0,m v15,m v2,m v19,m v4,u (.ca N.a7 0 [0] [.l 4,.l 3,.l 2,.l 1,.l 0])] []) .skip) (.seq (.ite [m v1,m v15,u (.bin .lss l1 l0),m l0,y 0 true (.mv v15),y 1 true (.mv v13),y 2 true (.bin .lss l1 l0),u (.pk l3 l0 (.b false))] [] 0 (.reg [m v0,m v1,m v15,m v13,m v4,u (.ca N.aE 0 [0] [.l 4,.l 3,.l 2,.l 1,.l 0])] []) .skip) (.ite [m v13,m v19,u (.bin .lss l1 l0),m l0,y 0 true (.mv v19),y 1 true (.mv v3),y 2 true (.bin .lss l1 l0),u (.pk l3 l0 (.b false))] [] 0 (.reg [m v0,m v13,m v19,m v3,m v4,u (.ca N.aE 0 [0] [.l 4,.l 3,.l 2,.l 1,.l 0])] []) .skip)))))))))))),res:=[]}
def jU:C:=(.seq (.ite [m v5,m v6,u (.bin .neq l1 l0)] [] 0 .skip (.exit 0)) (.blk 1 (.ite [m v5,m v6,u (.bin .gtr l1 l0)] [] 0 (.seq (.reg [m v0,m v2,m v5,u (.bin .sub l1 l0),m v2,m v6,m v4,u (.ca N.aJ 0 [0] [.l 6,.l 3,.l 2,.l 1,.l 0])] []) (.reg [m v5,m v6,u (.bin .sub l1 l0),w 5 (.mv l0)] [])) (.seq (.reg [m v0,m v2,m v5,u (.bin .sub l1 l0),m v2,m v6,u (.bin .add l1 l0),m v5,u (.bin .sub l1 l0),m v5,m v4,u (.ca N.aJ 0 [0] [.l 10,.l 7,.l 2,.l 1,.l 0])] []) (.reg [m v6,m v5,u (.bin .sub l1 l0),w 6 (.mv l0)] [])))))
def km:C:= .loop true [1,3] K.jU
def a7:Fn:={ nargs:=5,vars:=[0,1,2,3,4,10,11],body:=(.seq (.reg [m v2,m v1,u (.bin .sub l1 l0),w 5 (.mv l0)] []) (.seq (.reg [m v3,m v2,u (.bin .sub l1 l0),w 6 (.mv l0)] []) (.seq (.blk 0 K.km) (.reg [m v0,m v2,m v5,u (.bin .sub l1 l0),m v2,m v5,m v4,u (.ca N.aJ 0 [0] [.l 6,.l 3,.l 2,.l 1,.l 0])] [])))),res:=[]}
def i4:C:=(.seq (.ite [m v4,m v3,u (.bin .lss l1 l0)] [] 0 .skip (.exit 0)) (.seq (.blk 1 (.reg [m v0,m v1,m v4,u (.bin .add l1 l0),m v0,m v2,m v4,u (.bin .add l1 l0),m v0,m v2,m v4,u (.bin .add l1 l0),a 2 l3 l0,h 2 l0,m v0,m v1,m v4,u (.bin .add l1 l0),a 2 l3 l0,h 2 l0,a 2 (.l 19) (.l 16),u (.st l0 l7 2 []),a 2 (.l 17) (.l 14),u (.st l0 l3 2 [])] [])) (.reg [m v4,u (.bin .add l0 (.i 1)),w 4 (.mv l0)] [])))
def jq:C:= .loop true [] K.i4
def aJ:Fn:={ nargs:=5,vars:=[0,1,2,3,10],body:=(.seq (.reg [w 4 (.mv (.i 0))] []) (.blk 0 K.jq)),res:=[]}
def kn:C:=(.its [u (.bin .lss v7 v6)] [] 0 .skip (.exit 0) (.seq (.blk 1 (.seq (.reg [a 2 v5 v7,h 2 l0,w 4 (.al [.t (.int .i64 (0)),.nil] []),u (.st l0 l1 2 [])] []) (.reg [f 1 v3,g l0,f 0 v4,g l0,f 1 v4,g l0,u (.ca N.aU 1 [] [.l 0]),u (.bd [.t (.int .i64 (0)),.nil] [(0,1,.l 3),(1,1,.l 0)]),u (.bs [.l 0] 2),u (.app l7 l0 true 2),f 1 v3,u (.st l0 l1 1 [])] [(1,7),(1,9),(3,7)]))) (.reg [u (.bin .add v7 (.i 1)),w 7 (.mv l0)] [])))
def oN:C:= .loop true [0,1,4] K.kn
def cQ:Fn:={ nargs:=1,vars:=[0,1,2,3,5,11,12,13],body:=(.seq (.reg [w 1 (.bx v0 2),w 2 (.al [.nil,.nil] [])] []) (.seq (.reg [f 0 v1,g l0,u (.ca N.aU 1 [] [.l 0]),u (.bd [.nil,.nil] [(0,1,.l 0)]),w 3 (.al [.nil,.nil] [(1,2)]),u (.st l0 l1 2 [(1,2)])] []) (.seq (.seq (.reg [f 1 v1,w 5 (.ld l0 1 false),w 6 (.ln l0),w 7 (.mv (.i 0))] []) (.blk 0 K.oN)) (.seq (.reg [h 2 v3,u (.st v2 l0 2 [])] []) .ret)))),res:=[(2,some (2,true))]}
end Go.Ev.K
namespace Go.Ev
class jr [Lib]:Prop where
 uz:Lib.fs N.jz=some K.jz
 pV:Lib.fs N.fS=some K.fS
 cY:Lib.fs N.aH=some K.aH
 cZ:Lib.fs N.aI=some K.aI
 m0:Lib.fs N.a8=some K.a8
 fD:Lib.fs N.bq=some K.bq
 bP:Lib.fs N.az=some K.az
 eI:Lib.fs N.ak=some K.ak
 dG:Lib.fs N.aO=some K.aO
 bI:Lib.fs N.ay=some K.ay
 fy:Lib.fs N.aE=some K.aE
 fV:Lib.fs N.a7=some K.a7
 fo:Lib.fs N.aJ=some K.aJ
 lM:Lib.fs N.cQ=some K.cQ
namespace K
variable [Lib] [jr]
theorem uz:Lib.fs N.jz=some K.jz:=jr.uz
theorem pV:Lib.fs N.fS=some K.fS:=jr.pV
theorem cY:Lib.fs N.aH=some K.aH:=jr.cY
theorem cZ:Lib.fs N.aI=some K.aI:=jr.cZ
theorem m0:Lib.fs N.a8=some K.a8:=jr.m0
theorem fD:Lib.fs N.bq=some K.bq:=jr.fD
theorem bP:Lib.fs N.az=some K.az:=jr.bP
theorem eI:Lib.fs N.ak=some K.ak:=jr.eI
theorem dG:Lib.fs N.aO=some K.aO:=jr.dG
theorem bI:Lib.fs N.ay=some K.ay:=jr.bI
theorem fy:Lib.fs N.aE=some K.aE:=jr.fy
theorem fV:Lib.fs N.a7=some K.a7:=jr.fV
theorem fo:Lib.fs N.aJ=some K.aJ:=jr.fo
theorem lM:Lib.fs N.cQ=some K.cQ:=jr.lM
end K
end Go.Ev
namespace Go.Ev
open Go
variable [Lib] [cn] [bS] [iE] [iv] [lU] [gV] [gW] [kt] [iJ] [hX] [fT] [qb] [jr]
theorem Hf(x:World)(h:x.sz):∀z0 z1 z4:D,exS aN K.oN ⟨[z0,z1,.bp 1 0,.bp 3 0,z4,.t (.sl (x.whr.map Wh.e)),I x.whr.length,I 0],[.box [.t (tL x.tags),.t (.sl (x.whr.map Wh.e))],.box [.nil,.nil],Dj x.tags,.box [.ref 2 0 x.tags.length,.ref 5 0 0],.arr 2 false 0 [],.arr 2 false 0 []]⟩=
 some (.exit 0,⟨[.und,.und,.bp 1 0,.bp 3 0,.und,.t (.sl (x.whr.map Wh.e)),I x.whr.length,I x.whr.length],[.box [.t (tL x.tags),.t (.sl (x.whr.map Wh.e))],.box [.nil,.nil],Dj x.tags,.box [.ref 2 0 x.tags.length,.ref 5 0 x.whr.length],.arr 2 false 0 [],.arr 2 false 0 ((x.whr.map Wh.e).map .t)]⟩):=by
 intro z0 z1 z4
 obtain⟨tags,whr⟩:=x
 obtain⟨h1,h2,h3⟩:=h
 simp only at h1 h2 h3 ⊢
 have tk:whr.take whr.length=whr:=by simp
 refine b5 (fun j=>⟨[.und,.und,.bp 1 0,.bp 3 0,.und,.t (.sl (whr.map Wh.e)),I whr.length,I j],[.box [.t (tL tags),.t (.sl (whr.map Wh.e))],.box [.nil,.nil],Dj tags,.box [.ref 2 0 tags.length,.ref 5 0 (whr.take j).length],.arr 2 false 0 [],.arr 2 false 0 (((whr.take j).map Wh.e).map .t)]⟩) whr.length rfl ?_ ?_ (by simp)
 · intro j hj
   have c:=yf (nth whr j).frm (h3 _ (aa hj))
   have ex:(whr.map Wh.e)[j]?=some (nth whr j).e:=dz _ hj
   have lt:(whr.take j).length=j:=by rw[List.length_take];omega
   have tk:whr.take (j+1)=whr.take j++[nth whr j]:=iP hj
   generalize nth whr j=w at*
   generalize whr.take j=pre at*
   obtain⟨time,frm⟩:=w
   simp only[Dj]at*
   simp (disch:=omega) only[go_sem,K.kn,↓reduceIte,ex,c,lt,tk,List.map_append,List.map_cons,List.map_nil,List.length_append,List.length_cons,List.length_nil,Nat.reduceAdd,Nat.reduceSub]
 · simp only[Dj]
   simp (disch:=omega) only[go_sem,K.kn,↓reduceIte,tk,Nat.reduceAdd,Nat.reduceSub]
theorem FX(x:World)(h:x.sz):aN 1 N.cQ [.t x.e] []=some (.agg [.ref 0 0 x.tags.length,.ref 1 0 x.whr.length],[.arr 1 false 0 ((x.tags.map (T.int .i64)).map .t),.arr 2 false 0 ((x.whr.map Wh.e).map .t)]):=by
 refine ax K.lM rfl ?_
 have loop:=Hf x h
 have c:=yf x.tags h.1
 obtain⟨tags,whr⟩:=x
 obtain⟨h1,h2,h3⟩:=h
 simp only[Dj]at h1 h2 h3 loop c ⊢
 simp (disch:=omega) only[go_sem,K.cQ,↓reduceIte,loop,c,Nat.reduceAdd,Nat.reduceSub]
abbrev wM(l:List World):Obj:= .arr 2 false 0 ((l.map World.e).map .t)
theorem Hg(l:List World):aN 0 N.aI [.t (.sl (l.map World.e))] []=some (.fn N.ak [.bp 0 0],[.box [.t (.sl (l.map World.e))]]):=by
 refine ax K.cZ rfl ?_
 simp (disch:=omega) only[go_sem,K.aI,↓reduceIte,Nat.reduceAdd,Nat.reduceSub]
theorem Et(l:List World)(h0:0<l.length)(hl:l.length≤1000000):aN 1 N.bq [.fn N.ak [.bp 0 0]] [.box [.t (.sl (l.map World.e))]]=some (.ref 1 0 l.length,[.box [.t (.sl (l.map World.e))],wM l]):=by
 refine B7 K.fD (by decide) ?_
 show uL [3,N.ak] _ _=_
 have e:(l.map World.e).all Gk=true:=by
  rw[List.all_eq_true]
  intro x hx
  obtain⟨w, -,rfl⟩:=List.mem_map.1 hx
  rfl
 have ne:(l.map World.e).isEmpty=false:=by
  cases l with
  | nil=>simp at h0
  | cons=>rfl
 simp only[uL,if_true,List.getElem?_cons_zero,e,and_true,List.length_map,ne,Bool.false_eq_true,if_false]
 rw[if_pos (by unfold lim;omega)]
 rfl
theorem Hh(a b:World)(ha:a.sz)(hb:b.sz):aN 0 N.a8 [.t a.e,.t b.e] []=some (I (Mv a.tags b.tags),[]):=by
 refine ax K.m0 rfl ?_
 have c:=zJ a.tags b.tags ha.1 hb.1
 obtain⟨t1,w1⟩:=a
 obtain⟨t2,w2⟩:=b
 simp only at*
 simp (disch:=omega) only[go_sem,K.a8,↓reduceIte,c,Nat.reduceAdd,Nat.reduceSub]
abbrev Eu(l:List World):Prop:=l.Pairwise fun x y=>lexB y.tags x.tags=false
theorem Rq(a b:List Int):Mv a b<0↔lexB a b=true:=by
 rw[← nD,←CO];simp
abbrev isS(l:List World)(b i:Int)(j:D):St:=⟨[.ref 0 0 l.length,I 0,I b,.fn N.a8 [],I i,j],[wM l]⟩
theorem Ke{p:List World}{x:World}{r:List World}{j:Nat}(h:p.length=j):nth (p++x::r) j=x:=bB (by rw[List.getElem?_append_right (by omega),h,Nat.sub_self];rfl)
theorem Rr{α:Type}{p:List α}{y x a c:α}{r:List α}{j:Nat}(h:p.length=j):((p++y::x::r).set (j+1) a).set j c=p++c::a::r:=by
 rw[List.set_append_right _ _ (by omega),h,show j+1-j=1 by omega,List.set_append_right _ _ (by omega),h,Nat.sub_self]
 rfl
def abp(b i:Int)(l0 rest:List World)(x:World)(k:Nat)(st:St):Prop:=
 ∃p q,st=isS (p++x::(q++rest)) b i (I ((p.length:Nat):Int))∧p.length+k=l0.length∧p++q=l0∧(∀y∈q,lexB x.tags y.tags=true)
theorem MH(b i:Int)(p r:List World)(y x:World)(hx:x.sz)(hy:y.sz)(hl:(p++y::x::r).length≤1000):
 (lexB x.tags y.tags=true→fJ true [] 1 (exS aN K.aL (isS (p++y::x::r) b i (I ((p.length+1:Nat):Int))))=some (isS (p++x::y::r) b i (I ((p.length:Nat):Int))))∧
 (lexB x.tags y.tags=false→exS aN K.aL (isS (p++y::x::r) b i (I ((p.length+1:Nat):Int)))=some (.exit 2,isS (p++y::x::r) b i (I ((p.length+1:Nat):Int)))):=by
 have c:=Hh x y hx hy
 have cl:=Rq x.tags y.tags
 obtain⟨n,hn⟩:∃n,p.length=n:=⟨_,rfl⟩
 have n1:nth (p++y::x::r) (n+1)=x:=by
  have:=Ke (p:=p++[y]) (x:=x) (r:=r) (j:=n+1) (by simp[hn])
  rwa [List.append_assoc]at this
 have n0:nth (p++y::x::r) n=y:=Ke hn
 have st:((((p++y::x::r).map World.e).map D.t).set (n+1) (D.t y.e)).set n (D.t x.e)=(((p++x::y::r).map World.e).map D.t):=by
  simp only[List.map_append,List.map_cons]
  exact Rr (by simp[hn])
 have ln:(p++y::x::r).length=(p++x::y::r).length:=by simp
 have lt:n+1<(p++y::x::r).length:=by simp[hn]
 rw[hn]
 have gs:∀v,((((p++y::x::r).map World.e).map D.t).set (n+1) v)[n]?=some (D.t y.e):=fun v=>by
  rw[List.getElem?_set_ne (by omega),List.getElem?_map,List.getElem?_map,jv (by omega),n0];rfl
 simp only[isS,wM]
 rw[← ln]
 generalize (p++x::y::r)=L2 at*
 generalize (p++y::x::r)=L at*
 generalize Mv x.tags y.tags=v at*
 obtain⟨t1,w1⟩:=x
 obtain⟨t2,w2⟩:=y
 simp only at*
 constructor
 · intro h
   have v0:=cl.2 h
   simp (disch:=omega) only[go_sem,K.aL,↓reduceIte,n1,n0,c,gs,st,Nat.reduceAdd,Nat.reduceSub]
 · intro h
   have v0:¬v<0:=fun e=>by rw[cl.1 e]at h;cases h
   simp (disch:=omega) only[go_sem,K.aL,↓reduceIte,n1,n0,c,Nat.reduceAdd,Nat.reduceSub]
theorem Rs{p q:List World}{x:World}(hs:Eu (p++q))(hq:∀y∈q,lexB x.tags y.tags=true)(hp:∀y∈p,lexB x.tags y.tags=false):Eu (p++x::q):=by
 simp only[Eu,List.pairwise_append]at hs ⊢
 refine⟨hs.1,?_,fun a ha c hc=>?_⟩
 · rw[List.pairwise_cons]
   refine⟨fun y hy=>?_,hs.2.1⟩
   cases h:lexB y.tags x.tags with
   | false=>rfl
   | true=>have:=lex_trans h (hq y hy);rw[lex_irrefl]at this;cases this
 · rcases List.mem_cons.1 hc with rfl | hc
   · exact hp a ha
   · exact hs.2.2 a ha c hc
theorem MI(b i:Int)(l0 rest:List World)(x:World)(hs:Eu l0)(hz:∀w∈l0++x::rest,w.sz)(hl:(l0++x::rest).length≤1000):
 ∃(l1:List World) (z:D),exS aN K.dR (isS (l0++x::rest) b i (I ((l0.length:Nat):Int)))=some (.exit 2,isS (l1++rest) b i z)∧l1.Perm (l0++[x])∧Eu l1:=by
 have fin:∀p q,p++q=l0→(∀y∈q,lexB x.tags y.tags=true)→(∀y∈p,lexB x.tags y.tags=false)→(p++x::q).Perm (l0++[x])∧Eu (p++x::q):=by
  intro p q e hq hp
  subst e
  refine⟨?_,Rs hs hq hp⟩
  rw[List.append_assoc]
  exact List.Perm.append_left _ (List.perm_append_comm (l₁:=[x]))
 have key:=JL (gc:=true) (dead:=[]) (c:=K.aL) (vs:=[.ref 0 0 (l0++x::rest).length,I 0,I b,.fn N.a8 [],I i,I ((l0.length:Nat):Int)]) (H:=[wM (l0++x::rest)])
  (abp b i l0 rest x) l0.length (fun r=>∃(l1:List World) (z:D),r=(.exit 2,isS (l1++rest) b i z)∧l1.Perm (l0++[x])∧Eu l1) ?_ ?_ ?_
 · obtain⟨r,h,l1,z,rfl,a,c⟩:=key
   exact⟨l1,z,h,a,c⟩
 · exact⟨l0,[],rfl,by omega,by simp,fun y hy=>by cases hy⟩
 · rintro j st hj ⟨p,q,rfl,h1,h2,h3⟩
   obtain⟨p',y,rfl⟩:∃p' y,p=p'++[y]:=⟨p.dropLast,p.getLast (fun e=>by subst e;simp at h1;omega),(List.dropLast_concat_getLast _).symm⟩
   subst h2
   have hz':∀w∈p'++[y]++q++x::rest,w.sz:=hz
   have e1:p'++[y]++x::(q++rest)=p'++y::x::(q++rest):=by simp
   have e2:(p'++[y]).length=p'.length+1:=by simp
   rw[e1,e2]
   have st:=MH b i p' (q++rest) y x (hz' x (by simp)) (hz' y (by simp)) (by simp at hl ⊢;omega)
   cases hc:lexB x.tags y.tags with
   | true=>
     refine .inl ⟨_,st.1 hc,p',y::q,by simp[isS],by simp at h1 ⊢;omega,by simp,fun w hw=>?_⟩
     rcases List.mem_cons.1 hw with rfl | hw
     · exact hc
     · exact h3 w hw
   | false=>
     refine .inr ⟨_,st.2 hc,by simp,p'++[y]++x::q,I ((p'.length+1:Nat):Int),by simp[isS],?_⟩
     refine fin (p'++[y]) q rfl h3 fun w hw=>?_
     rcases List.mem_append.1 hw with hw | hw
     · cases h:lexB x.tags w.tags with
       | false=>rfl
       | true=>
         have hwy:lexB y.tags w.tags=false:=by
          simp only[Eu,List.pairwise_append]at hs
          exact hs.1.2.2 w hw y (by simp)
         rcases mY y.tags x.tags with a | a | a
         · rw[lex_trans a h]at hwy;cases hwy
         · rw[a,h]at hwy;cases hwy
         · rw[a]at hc;cases hc
     · rw[List.mem_singleton.1 hw];exact hc
 · rintro st ⟨p,q,rfl,h1,h2,h3⟩
   have p0:p=[]:=List.eq_nil_of_length_eq_zero (by omega)
   subst p0
   simp only[List.nil_append]at h2
   subst h2
   refine⟨(.exit 2,isS (x::(q++rest)) b i (I 0)),?_,by simp,x::q,I 0,rfl,fin [] q rfl h3 (fun y hy=>by cases hy)⟩
   simp only[isS,wM,List.nil_append,List.length_nil]
   simp (disch:=omega) only[go_sem,K.aL,↓reduceIte,Nat.reduceAdd,Nat.reduceSub]
def ZR(l:List World)(k:Nat)(st:St):Prop:=
 ∃l':List World,st=isS l' l.length (1+(k:Int)) .und∧l'.Perm l∧Eu (l'.take (1+k))
theorem Kf(l:List World)(hz:∀w∈l,w.sz)(hl:l.length≤1000){k:Nat}(hk:k<l.length-1){st:St}(hP:ZR l k st):
 ∃st',fJ true [5] st.H.length (exS aN K.aW st)=some st'∧ZR l (k+1) st':=by
 obtain⟨l',rfl,pm,so⟩:=hP
 have ln:=pm.length_eq
 have sp:l'=l'.take (1+k)++nth l' (1+k)::l'.drop (1+k+1):=by
  conv=>lhs;rw[← List.take_append_drop (1+k) l']
  rw[List.drop_eq_getElem_cons (by omega),bB (List.getElem?_eq_getElem (by omega))]
 have l0:(l'.take (1+k)).length=1+k:=by rw[List.length_take];omega
 obtain⟨l1,z,h,p1,s1⟩:=MI l.length (1+(k:Int)) (l'.take (1+k)) (l'.drop (1+k+1)) (nth l' (1+k)) so (fun w hw=>hz w (pm.mem_iff.1 (by rw[sp];exact hw))) (by rw[← sp];omega)
 rw[← sp,l0]at h
 have l1n:l1.length=1+k+1:=by rw[p1.length_eq,List.length_append,l0];rfl
 have tl:(l1++l'.drop (1+k+1)).length=l'.length:=by rw[List.length_append,l1n,List.length_drop];omega
 refine⟨isS (l1++l'.drop (1+k+1)) l.length (1+((k+1:Nat):Int)) .und,?_,_,rfl,?_,?_⟩
 · generalize (l1++l'.drop (1+k+1))=L at*
   clear sp
   simp only[isS,wM]at*
   have e:((1+k:Nat):Int)=1+(k:Int):=by omega
   rw[e]at h
   have e2:(1:Int)+((k+1:Nat):Int)=1+(k:Int)+1:=by omega
   rw[e2,tl]
   rw[tl]at h
   have lt:(1:Int)+k<l.length:=by omega
   simp (disch:=omega) only[go_sem,K.aW,↓reduceIte,h,Nat.reduceAdd,Nat.reduceSub]
 · have:(l1++l'.drop (1+k+1)).Perm l':=by
    conv=>rhs;rw[sp]
    rw[show l'.take (1+k)++nth l' (1+k)::l'.drop (1+k+1)=(l'.take (1+k)++[nth l' (1+k)])++l'.drop (1+k+1)by simp]
    exact List.Perm.append_right _ p1
   exact this.trans pm
 · rw[show 1+(k+1)=l1.length by omega,List.take_left']
   · exact s1
   · rfl
theorem Kg(l:List World)(hz:∀w∈l,w.sz)(hl:l.length≤1000):
 ∃l',aN 0 N.ay [.ref 0 0 l.length,I 0,I l.length,.fn N.a8 []] [wM l]=some (.tup [],[wM l'])∧l'.Perm l∧Eu l':=by
 by_cases h0:l.length=0
 · have e:l=[]:=List.eq_nil_of_length_eq_zero h0
   subst e
   refine⟨[],?_,List.Perm.refl _,List.Pairwise.nil⟩
   refine ax K.bI rfl ?_
   have lp:∀z5,exS aN K.b6 ⟨[.ref 0 0 0,I 0,I 0,.fn N.a8 [],I 1,z5],[.arr 2 false 0 []]⟩=some (.exit 0,⟨[.ref 0 0 0,I 0,I 0,.fn N.a8 [],I 1,.und],[.arr 2 false 0 []]⟩):=by
    intro z5
    refine uZ (c7 ?_ (by simp))
    simp (disch:=omega) only[go_sem,K.aW,↓reduceIte,Nat.reduceAdd,Nat.reduceSub]
   simp only[wM,List.map_nil,List.length_nil]
   simp (disch:=omega) only[go_sem,K.ay,↓reduceIte,lp,Nat.reduceAdd,Nat.reduceSub]
 · have key:=fun z5:D=>JL (gc:=true) (dead:=[5]) (c:=K.aW) (vs:=[.ref 0 0 l.length,I 0,I l.length,.fn N.a8 [],I 1,z5]) (H:=[wM l])
    (ZR l) (l.length-1) (fun r=>∃l':List World,r=(.exit 0,isS l' l.length l.length .und)∧l'.Perm l∧Eu l') ⟨l,rfl,List.Perm.refl _,by
     match l with
     | []=>exact List.Pairwise.nil
     | x::r=>simp⟩ (fun j st hj hP=> .inl (Kf l hz hl hj hP)) (by
     rintro st ⟨l',rfl,pm,so⟩
     have ln:=pm.length_eq
     have e:(1:Int)+((l.length-1:Nat):Int)=l.length:=by omega
     rw[e]
     rw[List.take_of_length_le (by omega)]at so
     refine⟨(.exit 0,isS l' l.length l.length .und),?_,by simp,l',rfl,pm,so⟩
     simp only[isS,wM]
     simp (disch:=omega) only[go_sem,K.aW,↓reduceIte,Nat.reduceAdd,Nat.reduceSub]
     )
   obtain⟨r,hr,l',rfl,pm,so⟩:=key .und
   refine⟨l',?_,pm,so⟩
   refine ax K.bI rfl ?_
   have ln:=pm.length_eq
   have hr:exS aN K.b6 _=_:=hr
   simp only[isS,wM,ln]at hr ⊢
   simp (disch:=omega) only[go_sem,K.ay,↓reduceIte,hr,Nat.reduceAdd,Nat.reduceSub]
theorem Kh(l:List World)(hz:∀w∈l,w.sz)(hl:l.length<20):
 ∃l',aN 0 N.aO [.ref 0 0 l.length,I l.length,.fn N.a8 []] [wM l]=some (.tup [],[wM l'])∧l'.Perm l∧Eu l':=by
 obtain⟨l',h,pm,so⟩:=Kg l hz (by omega)
 refine⟨l',?_,pm,so⟩
 refine ax K.dG rfl ?_
 have ln:=pm.length_eq
 have e1:∀z6:D,exS aN K.fO ⟨[.ref 0 0 l.length,I l.length,.fn N.a8 [],I 20,I 0,I 20,z6],[wM l]⟩=some (.exit 0,⟨[.ref 0 0 l.length,I l.length,.fn N.a8 [],I 20,I 0,I 20,.und],[wM l]⟩):=by
  intro z6
  refine uZ (c7 ?_ (by simp))
  simp only[wM]
  simp (disch:=omega) only[go_sem,K.fv,↓reduceIte,Nat.reduceAdd,Nat.reduceSub]
 have e2:∀z4 z5 z6:D,exS aN K.fP ⟨[.ref 0 0 l.length,I l.length,.fn N.a8 [],I 20,z4,z5,z6],[wM l']⟩=some (.exit 2,⟨[.ref 0 0 l.length,I l.length,.fn N.a8 [],I 20,.und,.und,.und],[wM l']⟩):=by
  intro z4 z5 z6
  refine uZ (c7 ?_ (by simp))
  simp only[wM]
  simp (disch:=omega) only[go_sem,K.fw,↓reduceIte,Nat.reduceAdd,Nat.reduceSub]
 simp only[wM]at*
 simp (disch:=omega) only[go_sem,K.aO,↓reduceIte,e1,e2,h,Nat.reduceAdd,Nat.reduceSub]
theorem AS(l:List World)(hz:∀w∈l,w.sz)(hl:l.length<20):
 ∃l',aN 0 N.az [.ref 0 0 l.length,.fn N.a8 []] [wM l]=some (.tup [],[wM l'])∧l'.Perm l∧Eu l':=by
 obtain⟨l',h,pm,so⟩:=Kh l hz hl
 refine⟨l',?_,pm,so⟩
 refine ax K.bP rfl ?_
 simp only[wM]at*
 simp (disch:=omega) only[go_sem,K.az,↓reduceIte,h,Nat.reduceAdd,Nat.reduceSub]
theorem Hi(l:List World)(hz:∀w∈l,w.sz)(h0:0<l.length)(hl:l.length<20):
 ∃l',aN 0 N.aH [.fn N.ak [.bp 0 0],.fn N.a8 []] [.box [.t (.sl (l.map World.e))]]=some (.t (.sl (l'.map World.e)),[.box [.t (.sl (l.map World.e))]])∧l'.Perm l∧Eu l':=by
 obtain⟨l',h,pm,so⟩:=AS l hz hl
 refine⟨l',?_,pm,so⟩
 refine ax K.cY rfl ?_
 have c:=Et l h0 (by omega)
 have ln:=pm.length_eq
 simp only[wM]at*
 simp (disch:=omega) only[go_sem,K.aH,↓reduceIte,c,h,ln,Nat.reduceAdd,Nat.reduceSub]
end Go.Ev
namespace Go.Ev
open Go
variable [Lib] [cn] [bS] [iE] [iv] [lU] [gV] [gW] [kt] [iJ]
end Go.Ev
namespace Go.Ev
open Go
variable [Lib] [cn] [bS] [iE] [iv] [lU] [gV] [gW] [kt] [iJ] [hX] [fT]
theorem Hj{l:List Int}{i j:Nat}(hi:i<l.length)(hj:j<l.length):(G6 l i j).Perm l:=by
 have:=Array.swap_perm (xs:=l.toArray) (i:=i) (j:=j) (by simpa using hi) (by simpa using hj)
 rw[Array.perm_iff_toList_perm]at this
 unfold G6
 rw[bB (List.getElem?_eq_getElem hi),bB (List.getElem?_eq_getElem hj)]
 simpa [Array.swap]using this
theorem uA{m:aT}{l:List Wh}(hl:∀w∈l,cL m w=true)(i:Nat){x:Wh}(hx:i<l.length→cL m x=true):∀w∈l.set i x,cL m w=true:=by
 intro w hw
 by_cases h:i<l.length
 · rcases List.mem_or_eq_of_mem_set hw with a | rfl
   · exact hl w a
   · exact hx h
 · rw[List.set_eq_of_length_le (by omega)]at hw;exact hl w hw
theorem yA{m:aT}(h:m.ok){w:Wh}(hv:cL m w=true)(t:Int):cL m (lT w t).1=true:=by
 unfold lT
 split
 · exact hv
 · obtain⟨a,b,c, -⟩:=bZ hv
   have cl:=yc h hv
   unfold inT at b
   exact yb h a (by simp only;unfold inT;omega) c (FB (t':=t) (by omega) cl)
theorem Ki{m:aT}{first:List Int}{x:World}(h:WV m first x)(tag:Int){w:Wh}(hw:(bL x.tags tag).toNat<x.whr.length→cL m w=true):WV m first (Ek tag x w):=
 ⟨h.pm,by simp[Ek,h.wl],uA h.wv _ hw⟩
def XE(m:aT)(tag:Int)(l:List Int)(a b:Int)(x:World):Option World:=
 if(zK m tag l a b x).2=43 then none else some (if(zK m tag l a b x).2=0 then Ek tag x (zK m tag l a b x).1 else x)
theorem FY(m:aT)(tag:Int)(l:List Int)(a b:Int)(ws:List World):∀j,j≤ws.length→mW m tag l a b ws j=(ws.take j).filterMap (XE m tag l a b)
 | 0,_=>by simp[mW]
 | j+1,h=>by
   rw[iP (by omega),List.filterMap_append]
   simp only[mW,FY m tag l a b ws j (by omega),CB,XE,List.filterMap_cons,List.filterMap_nil]
   split<;>simp_all
theorem FZ(m:aT)(tag:Int)(l:List Int)(a b bl:Int)(ws:List World):∀j,j≤ws.length→oL m tag l a b bl ws j=(ws.take j).map fun x=>if(zL m tag l a b bl x).2=0 then Ek tag x (zL m tag l a b bl x).1 else x
 | 0,_=>by simp[oL]
 | j+1,h=>by
   rw[iP (by omega),List.map_append]
   simp only[oL,FZ m tag l a b bl ws j (by omega),El,List.map_cons,List.map_nil]
theorem Ew{m:aT}(hm:m.ok){first:List Int}{tag:Int}{l:List Int}{a b:Int}{x y:World}(h:WV m first x)(e:XE m tag l a b x=some y):WV m first y∧y.tags=x.tags:=by
 unfold XE at e
 split at e
 · cases e
 · simp only[Option.some.injEq]at e
   subst e
   split
   · exact⟨Ki h tag fun hl=>Ka hm (h.wv _ (aa hl)) l a b,rfl⟩
   · exact⟨h,rfl⟩
theorem VA{m:aT}(hm:m.ok){first:List Int}{ws:List World}(h:BV m first ws)(tag:Int)(l:List Int)(a b:Int):BV m first (mW m tag l a b ws ws.length):=by
 rw[FY m tag l a b ws _ (Nat.le_refl _),List.take_length]
 refine⟨h.pr,h.f1,h.f2,fun y hy=>?_,?_⟩
 · obtain⟨x,hx,e⟩:=List.mem_filterMap.1 hy
   exact(Ew hm (h.wv x hx) e).1
 · rw[List.pairwise_filterMap]
   refine(List.Pairwise.imp_of_mem ?_ h.up)
   intro x y hx hy hxy x' ex y' ey
   rw[(Ew hm (h.wv x hx) ex).2,(Ew hm (h.wv y hy) ey).2]
   exact hxy
theorem VB{m:aT}(hm:m.ok){first:List Int}{ws:List World}(h:BV m first ws)(tag:Int)(l:List Int)(a b bl:Int):BV m first (oL m tag l a b bl ws ws.length):=by
 rw[FZ m tag l a b bl ws _ (Nat.le_refl _),List.take_length]
 have tg:∀x:World,(if(zL m tag l a b bl x).2=0 then Ek tag x (zL m tag l a b bl x).1 else x).tags=x.tags:=by
  intro x;split<;>rfl
 refine⟨h.pr,h.f1,h.f2,fun y hy=>?_,?_⟩
 · obtain⟨x,hx,rfl⟩:=List.mem_map.1 hy
   have wx:=h.wv x hx
   split
   · exact Ki wx tag fun hl=>Kd hm (wx.wv _ (aa hl)) l a b bl
   · exact wx
 · rw[List.pairwise_map]
   refine h.up.imp fun{x y} hxy=>?_
   rw[tg,tg];exact hxy
theorem MJ{m:aT}(hm:m.ok){first:List Int}{x:World}(h:WV m first x){i j:Nat}(hi:i<first.length)(hj:j<first.length)(t:Int):WV m first (sW i j t x):=by
 have wl:=h.wl
 have tl:=h.pm.length_eq
 refine⟨(Hj (by omega) (by omega)).trans h.pm,by simp[sW,wl],?_⟩
 exact uA (uA h.wv i fun hl=>yA hm (h.wv _ (aa hl)) t) j fun hl=>yA hm (h.wv _ (aa (by simpa using hl))) t
theorem uB{m:aT}(hm:m.ok){first:List Int}{ws:List World}(h:∀x∈ws,WV m first x){i j:Nat}(hi:i<first.length)(hj:j<first.length)(t:Int):∀k,k≤ws.length→∀x∈iu i j t ws k,WV m first x
 | 0,_,x,hx=>h x hx
 | k+1,hk,x,hx=>by
   simp only[iu,yr]at hx
   split at hx
   · rcases List.mem_append.1 hx with hx | hx
     · exact uB hm h hi hj t k (by omega) x hx
     · rw[List.mem_singleton.1 hx]
       exact MJ hm (h _ (aa (by omega))) hi hj t
   · exact uB hm h hi hj t k (by omega) x hx
theorem sY{m:aT}(hm:m.ok){a b:List Wh}(ha:∀w∈a,cL m w=true)(hb:∀w∈b,cL m w=true):∀p,p≤a.length→p≤b.length→∀w∈iU a b p,cL m w=true
 | 0,_,_,w,hw=>ha w hw
 | p+1,h1,h2,w,hw=>by
   refine uA (sY hm ha hb p (by omega) (by omega)) p (fun _=>?_) w hw
   exact(He hm (ha _ (aa (by omega))) (hb _ (aa (by omega)))).2.1
theorem AT{out:List World}{x:World}{k:Nat}(h:k<cC out x):lexB (nth out k).tags x.tags=true:=by
 unfold cC at h
 split at h
 · rename_i j hf
   rw[List.find?_range_eq_some]at hf
   have:=hf.2.2 k h
   rw[← nD];simpa using this
 · rename_i hf
   have:=List.find?_eq_none.1 hf k (List.mem_range.2 h)
   rw[← nD];simpa using this
theorem xk{out:List World}{x:World}(h:cC out x<out.length):lexB (nth out (cC out x)).tags x.tags=false:=by
 unfold cC at h ⊢
 split
 · rename_i j hf
   rw[List.find?_range_eq_some]at hf
   have:=hf.1
   rw[← nD];simpa using this
 · rename_i hf
   rw[hf]at h;simp at h
theorem nE{m:aT}(hm:m.ok){first:List Int}{out:List World}(h:BV m first out){x:World}(hx:WV m first x):BV m first (gK out x):=by
 have kl:=uv out x
 unfold gK
 split
 · rename_i c
   obtain⟨c1,c2⟩:=c
   have wk:=h.wv _ (aa c1)
   have w1:=wk.wl
   have w2:=hx.wl
   refine⟨h.pr,h.f1,h.f2,fun y hy=>?_,?_⟩
   · rcases List.mem_or_eq_of_mem_set hy with a | rfl
     · exact h.wv y a
     · exact⟨hx.pm,by rw[gy,gJ];exact w1,sY hm wk.wv hx.wv _ (by omega) (by omega)⟩
   · have u:=h.up
     rw[← List.pairwise_map (f:=World.tags) (R:=fun a b=>lexB a b=true)]at u ⊢
     rw[List.map_set]
     have e:(out.map World.tags).set (cC out x) x.tags=out.map World.tags:=by
      apply List.ext_getElem?
      intro i
      by_cases hi:cC out x=i
      · rw[← hi,List.getElem?_set_self (by simpa using c1),List.getElem?_map,jv c1,←c2];rfl
      · rw[List.getElem?_set_ne hi]
     rw[e];exact u
 · rename_i c
   refine⟨h.pr,h.f1,h.f2,fun y hy=>?_,?_⟩
   · simp only[List.mem_append,List.mem_singleton]at hy
     rcases hy with(hy | rfl) | hy
     · exact h.wv y (List.mem_of_mem_take hy)
     · exact hx
     · exact h.wv y (List.mem_of_mem_drop hy)
   · have u:=h.up
     have lo:∀y∈out.take (cC out x),lexB y.tags x.tags=true:=by
      intro y hy
      obtain⟨i,hi⟩:=List.mem_iff_getElem?.1 hy
      have il:=(List.getElem?_eq_some_iff.1 hi).1
      rw[List.length_take]at il
      rw[List.getElem?_take_of_lt (by omega)]at hi
      have:=AT (out:=out) (x:=x) (k:=i) (by omega)
      rwa [bB hi]at this
     have hi:∀y∈out.drop (cC out x),lexB x.tags y.tags=true:=by
      intro y hy
      obtain⟨i,hi⟩:=List.mem_iff_getElem?.1 hy
      have il:=(List.getElem?_eq_some_iff.1 hi).1
      rw[List.length_drop]at il
      rw[List.getElem?_drop]at hi
      have c1:cC out x<out.length:=by omega
      have at_:=xk c1
      have ne:(nth out (cC out x)).tags≠x.tags:=fun e=>c ⟨c1,e⟩
      have first_:lexB x.tags (nth out (cC out x)).tags=true:=by
       rcases mY (nth out (cC out x)).tags x.tags with a | a | a
       · rw[a]at at_;cases at_
       · exact absurd a ne
       · exact a
      by_cases i0:i=0
      · subst i0
        rw[Nat.add_zero]at hi
        rwa [bB hi]at first_
      · have:=(List.pairwise_iff_getElem.1 u) (cC out x) (cC out x+i) (by omega) (by omega) (by omega)
        rw[← bB (List.getElem?_eq_getElem (by omega:cC out x<out.length)),←bB (List.getElem?_eq_getElem (by omega:cC out x+i<out.length)),bB hi]at this
        exact lex_trans first_ this
     have td:out.take (cC out x)++out.drop (cC out x)=out:=List.take_append_drop _ _
     have u2:=u
     rw[← td,List.pairwise_append]at u2
     rw[List.append_assoc,List.pairwise_append]
     refine⟨u2.1,?_,fun y hy z hz=>?_⟩
     · rw[List.singleton_append,List.pairwise_cons];exact⟨hi,u2.2.1⟩
     · simp only[List.singleton_append,List.mem_cons]at hz
       rcases hz with rfl | hz
       · exact lo y hy
       · exact u2.2.2 y hy z hz
theorem AU{m:aT}(hm:m.ok){first:List Int}(pr:eC first=true)(f1:1≤first.length)(f2:first.length≤12){l:List World}(hl:∀x∈l,WV m first x):∀j,j≤l.length→BV m first (oM l j)
 | 0,_=>⟨pr,f1,f2,fun x hx=>by simp[oM]at hx,by simp[oM]⟩
 | j+1,h=>nE hm (AU hm pr f1 f2 hl j (by omega)) (hl _ (aa (by omega)))
def lookW(out:List World)(t:List Int):Option (List Wh):=(out.find? fun w=>decide (w.tags=t)).map World.whr
abbrev UpW(out:List World):Prop:=out.Pairwise fun x y=>lexB x.tags y.tags=true
theorem wD{a b:List Int}(h:lexB a b=true):a≠b:=fun e=>by rw[e,lex_irrefl]at h;cases h
theorem ko{out:List World}{t:List Int}(h:∀w∈out,w.tags≠t):lookW out t=none:=by
 unfold lookW
 rw[List.find?_eq_none.2 fun w hw=>by simpa using h w hw];rfl
theorem iW:∀ {out:List World},UpW out→∀ {w:World},w∈out→lookW out w.tags=some w.whr
 | x::r,h,w,hw=>by
   unfold lookW
   rw[List.find?_cons]
   by_cases e:x.tags=w.tags
   · simp only[e,decide_true]
     rcases List.mem_cons.1 hw with rfl | hw
     · rfl
     · exact absurd e (wD ((List.pairwise_cons.1 h).1 w hw))
   · simp only[e,decide_false]
     rcases List.mem_cons.1 hw with rfl | hw
     · exact absurd rfl e
     · exact iW (List.pairwise_cons.1 h).2 hw
theorem zN(out:List World)(t:List Int):(∃w∈out,w.tags=t)∨(∀w∈out,w.tags≠t):=by
 by_cases h:∃w∈out,w.tags=t
 · exact .inl h
 · exact .inr fun w hw e=>h ⟨w,hw,e⟩
theorem Kj{out:List World}{t:List Int}{l:List Wh}(h:lookW out t=some l):∃w∈out,w.tags=t∧w.whr=l:=by
 unfold lookW at h
 obtain⟨w,hw,rfl⟩:=Option.map_eq_some_iff.1 h
 exact⟨w,List.mem_of_find?_eq_some hw,by simpa using List.find?_some hw,rfl⟩
theorem CP{x:World}{r:List World}{t:List Int}(h:x.tags≠t):lookW (x::r) t=lookW r t:=by
 unfold lookW;rw[List.find?_cons];simp only[h,decide_false]
theorem F3:∀ {a b:List World},UpW a→UpW b→(∀t,lookW a t=lookW b t)→a=b
 | [],[],_,_,_=>rfl
 | [],y::s,_,hb,h=>by
   have:=h y.tags
   rw[iW hb List.mem_cons_self]at this
   cases this
 | x::r,[],ha,_,h=>by
   have:=h x.tags
   rw[iW ha List.mem_cons_self]at this
   cases this
 | x::r,y::s,ha,hb,h=>by
   obtain⟨a1,a2⟩:=List.pairwise_cons.1 ha
   obtain⟨b1,b2⟩:=List.pairwise_cons.1 hb
   have hx:=h x.tags
   rw[iW ha List.mem_cons_self]at hx
   have hy:=h y.tags
   rw[iW hb List.mem_cons_self]at hy
   rcases mY x.tags y.tags with c | c | c
   · rw[ko]at hx
     · cases hx
     · intro w hw e
       rcases List.mem_cons.1 hw with rfl | hw
       · rw[e,lex_irrefl]at c;cases c
       · have:=lex_trans c (b1 w hw)
         rw[e,lex_irrefl]at this;cases this
   · have tl:r=s:=F3 a2 b2 fun t=>by
      by_cases e:x.tags=t
      · rw[ko fun w hw e2=>wD (a1 w hw) (e.trans e2.symm),ko fun w hw e2=>wD (b1 w hw) (c.symm.trans (e.trans e2.symm))]
      · have:=h t
        rwa [CP e,CP (fun e2=>e (c.trans e2))]at this
     rw[c,iW hb List.mem_cons_self]at hx
     obtain⟨xt,xw⟩:=x
     obtain⟨yt,yw⟩:=y
     simp only at c hx
     cases hx
     rw[c,tl]
   · rw[ko]at hy
     · cases hy
     · intro w hw e
       rcases List.mem_cons.1 hw with rfl | hw
       · rw[e,lex_irrefl]at c;cases c
       · have:=lex_trans c (a1 w hw)
         rw[e,lex_irrefl]at this;cases this
theorem Rt{out:List World}{x:World}:∀y∈out.take (cC out x),lexB y.tags x.tags=true:=by
 intro y hy
 have kl:=uv out x
 obtain⟨i,hi⟩:=List.mem_iff_getElem?.1 hy
 have il:=(List.getElem?_eq_some_iff.1 hi).1
 rw[List.length_take]at il
 rw[List.getElem?_take_of_lt (by omega)]at hi
 have:=AT (out:=out) (x:=x) (k:=i) (by omega)
 rwa [bB hi]at this
theorem Ru{out:List World}{x:World}(u:UpW out)(c:¬(cC out x<out.length∧(nth out (cC out x)).tags=x.tags)):∀y∈out.drop (cC out x),lexB x.tags y.tags=true:=by
 intro y hy
 obtain⟨i,hi⟩:=List.mem_iff_getElem?.1 hy
 have il:=(List.getElem?_eq_some_iff.1 hi).1
 rw[List.length_drop]at il
 rw[List.getElem?_drop]at hi
 have c1:cC out x<out.length:=by omega
 have at_:=xk c1
 have first_:lexB x.tags (nth out (cC out x)).tags=true:=by
  rcases mY (nth out (cC out x)).tags x.tags with a | a | a
  · rw[a]at at_;cases at_
  · exact absurd ⟨c1,a⟩ c
  · exact a
 by_cases i0:i=0
 · subst i0
   rw[Nat.add_zero]at hi
   rwa [bB hi]at first_
 · have:=(List.pairwise_iff_getElem.1 u) (cC out x) (cC out x+i) (by omega) (by omega) (by omega)
   rw[← bB (List.getElem?_eq_getElem (by omega:cC out x<out.length)),←bB (List.getElem?_eq_getElem (by omega:cC out x+i<out.length)),bB hi]at this
   exact lex_trans first_ this
def ZS(x:World):Option (List Wh)→List Wh
 | none=>x.whr
 | some w=>gy w x.whr
theorem uC{m:aT}(hm:m.ok){first:List Int}{out:List World}(h:BV m first out){x:World}(hx:WV m first x)(t:List Int):
 lookW (gK out x) t=if t=x.tags then some (ZS x (lookW out t))else lookW out t:=by
 have bv:=(nE hm h hx).up
 have u:=h.up
 unfold gK at bv ⊢
 by_cases c:cC out x<out.length∧(nth out (cC out x)).tags=x.tags
 · rw[if_pos c]at bv ⊢
   obtain⟨c1,c2⟩:=c
   have mk:nth out (cC out x)∈out:=aa c1
   have ms:(⟨x.tags,gy (nth out (cC out x)).whr x.whr⟩:World)∈out.set (cC out x) ⟨x.tags,gy (nth out (cC out x)).whr x.whr⟩:=
    List.mem_iff_getElem?.2 ⟨cC out x,List.getElem?_set_self c1⟩
   by_cases e:t=x.tags
   · rw[if_pos e,e,iW bv ms,←c2,iW u mk]
     rfl
   · rw[if_neg e]
     rcases zN out t with⟨w,hw,rfl⟩ | hn
     · rw[iW u hw]
       obtain⟨i,hi⟩:=List.mem_iff_getElem?.1 hw
       refine iW bv (List.mem_iff_getElem?.2 ⟨i,?_⟩)
       rw[List.getElem?_set_ne,hi]
       intro e2
       rw[← e2]at hi
       rw[bB hi]at c2
       exact e c2
     · rw[ko hn,ko]
       intro w hw
       rcases List.mem_or_eq_of_mem_set hw with hw | rfl
       · exact hn w hw
       · exact fun e2=>e e2.symm
 · rw[if_neg c]at bv ⊢
   have lo:=Rt (out:=out) (x:=x)
   have hi:=Ru u c
   have td:out.take (cC out x)++out.drop (cC out x)=out:=List.take_append_drop _ _
   have mem:∀w,w∈out.take (cC out x)++[x]++out.drop (cC out x)↔w=x∨w∈out:=by
    intro w
    conv=>rhs;rw[← td]
    simp only[List.mem_append,List.mem_singleton]
    constructor
    · rintro ((a | a) | a)
      · exact .inr (.inl a)
      · exact .inl a
      · exact .inr (.inr a)
    · rintro (a | a | a)
      · exact .inl (.inr a)
      · exact .inl (.inl a)
      · exact .inr a
   have nx:∀w∈out,w.tags≠x.tags:=by
    intro w hw
    rw[← td]at hw
    rcases List.mem_append.1 hw with hw | hw
    · exact wD (lo w hw)
    · exact fun e=>wD (hi w hw) e.symm
   by_cases e:t=x.tags
   · rw[if_pos e,e,ko nx,iW bv ((mem x).2 (.inl rfl))]
     rfl
   · rw[if_neg e]
     rcases zN out t with⟨w,hw,rfl⟩ | hn
     · rw[iW u hw,iW bv ((mem w).2 (.inr hw))]
     · rw[ko hn,ko]
       intro w hw
       rcases (mem w).1 hw with rfl | hw
       · exact fun e2=>e e2.symm
       · exact hn w hw
structure SH(n p:Nat)(l:List Wh):Prop where
 ln:l.length=n
 fr:∀w∈l,w.frm.length=p
theorem Oq{a b:Wh}(ht:a.time=b.time)(hl:a.frm.length=b.frm.length)(h:∀j,j<a.frm.length→nth a.frm j=nth b.frm j):a=b:=by
 obtain⟨t,f⟩:=a
 obtain⟨t2,f2⟩:=b
 simp only at ht hl h
 rw[ht,rv hl h]
theorem pW{a b:Wh}(h:a.frm.length=b.frm.length):(iR a b).1.time=max a.time b.time∧(iR a b).1.frm.length=a.frm.length∧∀j,j<a.frm.length→nth (iR a b).1.frm j=min (nth a.frm j) (nth b.frm j):=by
 unfold iR
 rw[if_pos h]
 exact⟨rfl,kU _ _ _,fun j hj=>AR a.frm b.frm a.frm.length j hj⟩
theorem F4(a b:List Wh):∀p,p≤a.length→∀i,i<p→nth (iU a b p) i=(iR (nth a i) (nth b i)).1
 | 0,_,i,h=>by omega
 | p+1,hp,i,h=>by
   simp only[iU]
   rw[sV _ _ (by rw[gJ];omega)]
   split
   · rename_i e;rw[e]
   · exact F4 a b p (by omega) i (by omega)
theorem oO{n p:Nat}{a b:List Wh}(ha:SH n p a)(hb:SH n p b):SH n p (gy a b)∧∀i,i<n→nth (gy a b) i=(iR (nth a i) (nth b i)).1:=by
 have l1:=ha.ln
 have l2:=hb.ln
 have e:gy a b=iU a b n:=by unfold gy;rw[l1,l2,Nat.min_self]
 have at_:=F4 a b n (by omega)
 rw[e]
 refine⟨⟨by rw[gJ];exact l1,fun w hw=>?_⟩,at_⟩
 obtain⟨i,hi⟩:=List.mem_iff_getElem?.1 hw
 have il:=(List.getElem?_eq_some_iff.1 hi).1
 rw[gJ]at il
 rw[← bB hi,at_ i (by omega),(pW (by rw[ha.fr _ (aa (by omega)),hb.fr _ (aa (by omega))])).2.1]
 exact ha.fr _ (aa il)
theorem Ey{n p:Nat}{a b:List Wh}(ha:SH n p a)(hb:SH n p b):gy a b=gy b a:=by
 obtain⟨s1,n1⟩:=oO ha hb
 obtain⟨s2,n2⟩:=oO hb ha
 refine rv (by rw[s1.ln,s2.ln]) fun i hi=>?_
 rw[s1.ln]at hi
 rw[n1 i hi,n2 i hi]
 have fa:=ha.fr _ (aa (l:=a) (j:=i) (by rw[ha.ln];exact hi))
 have fb:=hb.fr _ (aa (l:=b) (j:=i) (by rw[hb.ln];exact hi))
 obtain⟨t1,l1,m1⟩:=pW (a:=nth a i) (b:=nth b i) (by rw[fa,fb])
 obtain⟨t2,l2,m2⟩:=pW (a:=nth b i) (b:=nth a i) (by rw[fa,fb])
 refine Oq (by rw[t1,t2];omega) (by rw[l1,l2,fa,fb]) fun j hj=>?_
 rw[l1]at hj
 rw[m1 j hj,m2 j (by omega)];omega
theorem CQ{n p:Nat}{a b c:List Wh}(ha:SH n p a)(hb:SH n p b)(hc:SH n p c):gy (gy a b) c=gy (gy a c) b:=by
 obtain⟨s1,n1⟩:=oO ha hb
 obtain⟨s2,n2⟩:=oO ha hc
 obtain⟨s3,n3⟩:=oO s1 hc
 obtain⟨s4,n4⟩:=oO s2 hb
 refine rv (by rw[s3.ln,s4.ln]) fun i hi=>?_
 rw[s3.ln]at hi
 rw[n3 i hi,n4 i hi,n1 i hi,n2 i hi]
 have fa:=ha.fr _ (aa (l:=a) (j:=i) (by rw[ha.ln];exact hi))
 have fb:=hb.fr _ (aa (l:=b) (j:=i) (by rw[hb.ln];exact hi))
 have fc:=hc.fr _ (aa (l:=c) (j:=i) (by rw[hc.ln];exact hi))
 obtain⟨t1,l1,m1⟩:=pW (a:=nth a i) (b:=nth b i) (by rw[fa,fb])
 obtain⟨t2,l2,m2⟩:=pW (a:=nth a i) (b:=nth c i) (by rw[fa,fc])
 obtain⟨t3,l3,m3⟩:=pW (a:=(iR (nth a i) (nth b i)).1) (b:=nth c i) (by rw[l1,fa,fc])
 obtain⟨t4,l4,m4⟩:=pW (a:=(iR (nth a i) (nth c i)).1) (b:=nth b i) (by rw[l2,fa,fb])
 refine Oq (by rw[t3,t4,t1,t2];omega) (by rw[l3,l4,l1,l2]) fun j hj=>?_
 rw[l3,l1]at hj
 rw[m3 j (by omega),m4 j (by omega),m1 j (by omega),m2 j (by omega)];omega
theorem WV.sh{m:aT}{first:List Int}{x:World}(h:WV m first x):SH first.length m.places.length x.whr:=
 ⟨h.wl,fun w hw=>(bZ (h.wv w hw)).1⟩
theorem Hk{m:aT}(hm:m.ok){first:List Int}{out:List World}(h:BV m first out){x y:World}(hx:WV m first x)(hy:WV m first y):gK (gK out x) y=gK (gK out y) x:=by
 have bx:=nE hm h hx
 have by_:=nE hm h hy
 refine F3 (nE hm bx hy).up (nE hm by_ hx).up fun t=>?_
 rw[uC hm bx hy,uC hm by_ hx,uC hm h hx,uC hm h hy]
 by_cases e1:t=x.tags
 · by_cases e2:t=y.tags
   · rw[if_pos e2,if_pos e1,if_pos e1,if_pos e2]
     congr 1
     have sx:=hx.sh
     have sy:=hy.sh
     cases hl:lookW out t with
     | none=>exact Ey sx sy
     | some w=>
       obtain⟨z,hz, -,rfl⟩:=Kj hl
       exact CQ (h.wv z hz).sh sx sy
   · rw[if_neg e2,if_pos e1,if_pos e1,if_neg e2]
 · by_cases e2:t=y.tags
   · rw[if_pos e2,if_neg e1,if_neg e1,if_pos e2]
   · rw[if_neg e2,if_neg e1,if_neg e1,if_neg e2]
theorem zO(l:List World):∀j,j≤l.length→oM l j=(l.take j).foldl gK []
 | 0,_=>by simp[oM]
 | j+1,h=>by
   rw[iP (by omega),List.foldl_append]
   simp only[oM,zO l j (by omega),List.foldl_cons,List.foldl_nil]
theorem rF(l:List World):m7 l=l.foldl gK []:=by
 unfold m7;rw[zO l _ (Nat.le_refl _),List.take_length]
theorem Kk{m:aT}(hm:m.ok){first:List Int}{l l':List World}(p:l.Perm l'):(∀x∈l,WV m first x)→∀out,BV m first out→l.foldl gK out=l'.foldl gK out:=by
 induction p with
 | nil=>intro _ out _;rfl
 | cons x _ ih=>
   intro h out ho
   exact ih (fun y hy=>h y (List.mem_cons_of_mem _ hy)) _ (nE hm ho (h x List.mem_cons_self))
 | swap x y l=>
   intro h out ho
   simp only[List.foldl_cons]
   rw[Hk hm ho (h y List.mem_cons_self) (h x (List.mem_cons_of_mem _ List.mem_cons_self))]
 | trans p1 p2 ih1 ih2=>
   intro h out ho
   rw[ih1 h out ho,ih2 (fun y hy=>h y (p1.mem_iff.2 hy)) out ho]
theorem Hl{m:aT}(hm:m.ok){first:List Int}(pr:eC first=true)(f1:1≤first.length)(f2:first.length≤12){l l':List World}(p:l.Perm l')(h:∀x∈l,WV m first x):m7 l=m7 l':=by
 rw[rF,rF]
 exact Kk hm p h [] ⟨pr,f1,f2,(fun x hx=>by cases hx),List.Pairwise.nil⟩
def pX(out:List World)(x:World):List World:=
 if 0<out.length∧(nth out (out.length-1)).tags=x.tags then out.set (out.length-1) ⟨x.tags,gy (nth out (out.length-1)).whr x.whr⟩else out++[x]
theorem zP{out:List World}{x:World}(u:UpW out)(h:0<out.length→lexB x.tags (nth out (out.length-1)).tags=false):gK out x=pX out x:=by
 have kl:=uv out x
 by_cases h0:0<out.length
 · have h:=h h0
   have ge:out.length-1≤cC out x:=by
    rcases Nat.lt_or_ge (cC out x) (out.length-1)with c | c
    · exfalso
      have at_:=xk (out:=out) (x:=x) (by omega)
      have lt:=(List.pairwise_iff_getElem.1 u) (cC out x) (out.length-1) (by omega) (by omega) c
      rw[← bB (List.getElem?_eq_getElem (by omega:cC out x<out.length)),←bB (List.getElem?_eq_getElem (by omega:out.length-1<out.length))]at lt
      rcases mY (nth out (out.length-1)).tags x.tags with a | a | a
      · have:=lex_trans lt a
        rw[at_]at this;cases this
      · rw[a]at lt;rw[at_]at lt;cases lt
      · rw[h]at a;cases a
    · exact c
   unfold gK pX
   by_cases e:cC out x=out.length-1
   · rw[e]
     by_cases c:(nth out (out.length-1)).tags=x.tags
     · rw[if_pos ⟨by omega,c⟩,if_pos ⟨h0,c⟩]
     · exfalso
       have at_:=xk (out:=out) (x:=x) (by omega)
       rw[e]at at_
       rcases mY (nth out (out.length-1)).tags x.tags with a | a | a
       · rw[a]at at_;cases at_
       · exact c a
       · rw[h]at a;cases a
   · have e:cC out x=out.length:=by omega
     rw[e]
     have:¬(out.length<out.length∧(nth out out.length).tags=x.tags):=fun h=>by omega
     rw[if_neg this,List.take_length,List.drop_length,List.append_nil]
     have lt:=AT (out:=out) (x:=x) (k:=out.length-1) (by omega)
     rw[if_neg fun h=>wD lt h.2]
 · have e:out=[]:=List.eq_nil_of_length_eq_zero (by omega)
   subst e
   unfold gK pX
   simp
end Go.Ev
namespace Go.Ev
open Go
variable [Lib] [cn] [bS] [iE] [iv] [lU] [gV] [gW] [kt] [iJ] [hX] [fT] [qb] [jr]
theorem Rp.more{H:aj}{id:Nat}{es:List D}{fa fb:Nat→Nat}{out:List World}(hr:Rp H id es fa fb out)(t:aj):Rp (H++t) id es fa fb out:=
 ⟨by rw[ir (mK hr.arr)];exact hr.arr,hr.len,hr.el,fun j hj=>by rw[ir (mK (hr.ha j hj))];exact hr.ha j hj,fun j hj=>by rw[ir (mK (hr.hb j hj))];exact hr.hb j hj,hr.na,hr.nb,hr.nab,hr.nbb⟩
theorem AV{α:Type} [Dat α](l:List α)(x:α)(j:Nat):nth (l++[x]) j=if j<l.length then nth l j else if j=l.length then x else Dat.dflt:=by
 unfold nth
 simp only[List.getD_eq_getElem?_getD]
 split
 · rw[List.getElem?_append_left (by assumption)]
 · split
   · rename_i e;rw[e,List.getElem?_append_right (Nat.le_refl _),Nat.sub_self];rfl
   · rw[List.getElem?_eq_none (by simp;omega)];rfl
theorem Rp.snoc{H:aj}{id:Nat}{es:List D}{fa fb:Nat→Nat}{out:List World}(hr:Rp H id es fa fb out)(x:World)(o o2:Obj):
 Rp (H.set id (.arr 2 false 0 (es++[.agg [.ref (H.length+1) 0 x.tags.length,.ref (H.length+2) 0 x.whr.length]]))++[o,.arr 1 false 0 (ints x.tags),.arr 2 false 0 (whs x.whr),o2]) id
  (es++[.agg [.ref (H.length+1) 0 x.tags.length,.ref (H.length+2) 0 x.whr.length]]) (fun j=>if j<out.length then fa j else H.length+1) (fun j=>if j<out.length then fb j else H.length+2) (out++[x]):=by
 have e2:=hr.len
 have il:=mK hr.arr
 have ba:∀j,j<out.length→fa j<H.length:=fun j hj=>mK (hr.ha j hj)
 have bb:∀j,j<out.length→fb j<H.length:=fun j hj=>mK (hr.hb j hj)
 have sl:∀o,(H.set id o).length=H.length:=fun o=>List.length_set
 have getN:∀(o3:Obj) (t:aj) (k:Nat),(H.set id o3++t)[H.length+k]?=t[k]?:=fun o3 t k=>by
  have:=gq (H:=H.set id o3) (t:=t) (k:=k)
  rwa [sl]at this
 refine⟨by rw[ir (by rw[sl];exact il),oI il],by simp[e2],?_,?_,?_,?_,?_,?_,?_⟩
 · intro j hj
   rw[List.length_append,List.length_singleton]at hj
   rw[AV]
   by_cases h:j<out.length
   · simp only[if_pos h];rw[List.getElem?_append_left (by omega)];exact hr.el j h
   · have:j=out.length:=by omega
     subst this
     simp only[Nat.lt_irrefl,if_false,if_true]
     rw[List.getElem?_append_right (by omega),e2,Nat.sub_self];rfl
 · intro j hj
   rw[List.length_append,List.length_singleton]at hj
   rw[AV]
   by_cases h:j<out.length
   · simp only[if_pos h];rw[ir (by rw[sl];exact ba j h),jb (fun e=>hr.na j h e.symm)];exact hr.ha j h
   · have:j=out.length:=by omega
     subst this
     simp only[Nat.lt_irrefl,if_false,if_true]
     rw[getN];rfl
 · intro j hj
   rw[List.length_append,List.length_singleton]at hj
   rw[AV]
   by_cases h:j<out.length
   · simp only[if_pos h];rw[ir (by rw[sl];exact bb j h),jb (fun e=>hr.nb j h e.symm)];exact hr.hb j h
   · have:j=out.length:=by omega
     subst this
     simp only[Nat.lt_irrefl,if_false,if_true]
     rw[getN];rfl
 · intro j hj;split
   · exact hr.na j (by assumption)
   · omega
 · intro j hj;split
   · exact hr.nb j (by assumption)
   · omega
 · intro i j hi hj;split
   · rename_i h1
     have:=ba i h1
     split
     · exact hr.nab i j h1 (by assumption)
     · omega
   · split
     · rename_i h1
       have:=bb j h1
       omega
     · omega
 · intro i j hi hj hne
   rw[List.length_append,List.length_singleton]at hi hj
   split
   · rename_i h1
     have:=bb i h1
     split
     · exact hr.nbb i j h1 (by assumption) hne
     · omega
   · split
     · rename_i h1
       have:=bb j h1
       omega
     · omega
abbrev tdS(s:List World)(id:Nat)(n:Nat)(j:Int)(H:aj):St:=
 ⟨[.und,.und,.und,.ref id 0 n,.und,.und,.und,.t (.sl (s.map World.e)),I s.length,I j,.und,.und],H⟩
theorem Rv(s:List World)(j:Int)(x:World)(hsx:x.sz)(out:List World)(ho:out.length≤1000000)(h0:0<out.length)(hso:∀x∈out,x.sz)(H:aj)(id:Nat)(es:List D)(fa fb:Nat→Nat)
 (hr:Rp H id es fa fb out) (hl:x.whr.length=(nth out (out.length-1)).whr.length):∀z0 z1 z2 z6:D,
 exS aN K.r6 ⟨[z0,z1,z2,.ref id 0 out.length,.bp H.length 0,I out.length,z6,.t (.sl (s.map World.e)),I s.length,I j,I x.whr.length,I 0],H++[.box [.t (tL x.tags),.t (.sl (x.whr.map Wh.e))]]⟩=
 some (.exit 2,⟨[.und,.und,.und,.ref id 0 out.length,.bp H.length 0,I out.length,.und,.t (.sl (s.map World.e)),I s.length,I j,I x.whr.length,I x.whr.length],
  H.set (fb (out.length-1)) (.arr 2 false 0 (whs (gy (nth out (out.length-1)).whr x.whr)))++[.box [.t (tL x.tags),.t (.sl (x.whr.map Wh.e))]]⟩):=by
 intro z0 z1 z2 z6
 have e1:=hr.arr
 have e2:=hr.len
 have e3:=hr.el (out.length-1) (by omega)
 have e5:=hr.hb (out.length-1) (by omega)
 have e6:=hr.nb (out.length-1) (by omega)
 have e7:=mK e5
 have e8:=mK e1
 obtain⟨s1,s2,s3⟩:=hso _ (aa (l:=out) (j:=out.length-1) (by omega))
 obtain⟨x1,x2,x3⟩:=hsx
 have ej:gy (nth out (out.length-1)).whr x.whr=iU (nth out (out.length-1)).whr x.whr x.whr.length:=by unfold gy;rw[hl,Nat.min_self]
 rw[ej]
 have ci:(out.length:Int)-1=((out.length-1:Nat):Int):=by omega
 generalize nth out (out.length-1)=y at*
 generalize out.length-1=k at*
 obtain⟨ta,wa⟩:=y
 obtain⟨tb,wb⟩:=x
 simp only at s1 s2 s3 x1 x2 x3 e3 e5 hl ⊢
 have jl:=gJ wa wb
 have sl:∀o,(H.set (fb k) o).length=H.length:=fun o=>List.length_set
 have q1:∀o,(H.set (fb k) o)[id]?=H[id]?:=fun o=>jb e6
 have q2:∀o,(H.set (fb k) o)[fb k]?=some o:=fun o=>oI e7
 have q3:∀o (t:aj),(H.set (fb k) o++t)[H.length]?=t[0]?:=fun o t=>by
  have:=iS (H:=H.set (fb k) o) (t:=t)
  rwa [sl]at this
 have q4:∀o (t:aj),(H.set (fb k) o++t)[id]?=H[id]?:=fun o t=>by rw[ir (by rw[sl];exact e8),q1]
 have q5:∀o (t:aj),(H.set (fb k) o++t)[fb k]?=some o:=fun o t=>by rw[ir (by rw[sl];exact e7),q2]
 have q6:∀o o2 (t:aj),(H.set (fb k) o++t).set (fb k) o2=H.set (fb k) o2++t:=fun o o2 t=>by rw[Jf (by rw[sl];exact e7),rz]
 refine b5 (fun p=>⟨[.und,.und,.und,.ref id 0 out.length,.bp H.length 0,I out.length,.und,.t (.sl (s.map World.e)),I s.length,I j,I wb.length,I p],H.set (fb k) (.arr 2 false 0 (whs (iU wa wb p)))++[.box [.t (tL tb),.t (.sl (wb.map Wh.e))]]⟩) wb.length ?_ ?_ ?_ (by simp)
 · show(⟨_,H++_⟩:St)=⟨_,H.set (fb k) (.arr 2 false 0 (whs wa))++_⟩
   rw[As e5];rfl
 · intro p hp
   have jp:=jl p
   have jn:=yq wa wb p p (Nat.le_refl _)
   have jo:=MG (nth wa p) (nth wb p) (s3 _ (aa (by omega)))
   have hj:iU wa wb (p+1)=(iU wa wb p).set p (iR (nth wa p) (nth wb p)).1:=rfl
   rw[hj]
   generalize iU wa wb p=J at*
   generalize hu:nth wb p=u at*
   generalize nth wa p=w at*
   generalize iR w u=r at*
   obtain⟨⟨rt,rf⟩,re⟩:=r
   simp only at jo ⊢
   simp (disch:=omega) only[go_sem,K.mZ,↓reduceIte,q3,q4,q5,q6,sl,e1,e2,e3,ci,hu,jn,jo,Nat.reduceAdd,Nat.reduceSub]
 · have jp:=jl wb.length
   generalize iU wa wb wb.length=J at*
   simp (disch:=omega) only[go_sem,K.mZ,↓reduceIte,q3,q4,q5,q6,sl,Nat.reduceAdd,Nat.reduceSub]
theorem MK(s:List World)(hsl:s.length≤1000){j:Nat}(hj:j<s.length)(hx:(nth s j).sz)(out:List World)(ho:out.length≤100000)(hso:∀x∈out,x.sz)(H:aj)(id:Nat)(es:List D)(fa fb:Nat→Nat)
 (hr:Rp H id es fa fb out) (hl:0<out.length→(nth s j).whr.length=(nth out (out.length-1)).whr.length):
 ∃H' es' fa' fb',fJ false [0,1,2,4,5,6,10,11] H.length (exS aN K.gv (tdS s id out.length j H))=some (tdS s id (pX out (nth s j)).length ((j+1:Nat):Int) H')∧Rp H' id es' fa' fb' (pX out (nth s j)):=by
 have e1:=hr.arr
 have e2:=hr.len
 have e8:=mK e1
 have ex:(s.map World.e)[j]?=some (nth s j).e:=dz _ hj
 have cw:=FX (nth s j) hx
 by_cases c:0<out.length∧(nth out (out.length-1)).tags=(nth s j).tags
 · obtain⟨c0,ct⟩:=c
   have jo:=Rv s j (nth s j) hx out (by omega) c0 hso H id es fa fb hr (hl c0)
   have s1:=(hso _ (aa (l:=out) (j:=out.length-1) (by omega))).1
   have sm:=xi (nth out (out.length-1)).tags (nth s j).tags (by omega) (by have:=hx.1;omega)
   simp only[ct,decide_true]at sm
   have e3:=hr.el (out.length-1) (by omega)
   have e4:=hr.ha (out.length-1) (by omega)
   have mg:=(hr.merge (k:=out.length-1) (by omega) ⟨(nth s j).tags,gy (nth out (out.length-1)).whr (nth s j).whr⟩ ct (gJ _ _ _)).more [.box [.t (tL (nth s j).tags),.t (.sl ((nth s j).whr.map Wh.e))]]
   have lw:pX out (nth s j)=out.set (out.length-1) ⟨(nth s j).tags,gy (nth out (out.length-1)).whr (nth s j).whr⟩:=by unfold pX;rw[if_pos ⟨c0,ct⟩]
   rw[lw]
   refine⟨_,es,fa,fb,?_,mg⟩
   have ci:(out.length:Int)-1=((out.length-1:Nat):Int):=by omega
   rw[List.length_set]
   generalize nth out (out.length-1)=y at*
   generalize out.length-1=k at*
   obtain⟨ta,wa⟩:=y
   simp only at ct
   subst ct
   generalize nth s j=x at*
   obtain⟨tb,wb⟩:=x
   simp only[tdS,ints]at*
   have g4:fa k<H.length:=mK e4
   simp (disch:=omega) only[go_sem,K.gv,↓reduceIte,ex,ci,sm,e1,e2,e3,e4,jo,ir,iS,gq,mq,rA,Nat.reduceAdd,Nat.reduceSub]
 · have lw:pX out (nth s j)=out++[nth s j]:=by unfold pX;rw[if_neg c]
   rw[lw]
   refine⟨_,_,_,_,?_,hr.snoc (nth s j) (.box [.t (tL (nth s j).tags),.t (.sl ((nth s j).whr.map Wh.e))]) (.arr 2 false 0 [.agg [.ref (H.length+1) 0 (nth s j).tags.length,.ref (H.length+2) 0 (nth s j).whr.length]])⟩
   rw[List.length_append,List.length_singleton]
   by_cases c0:0<out.length
   · have ct:¬(nth out (out.length-1)).tags=(nth s j).tags:=fun e=>c ⟨c0,e⟩
     have s1:=(hso _ (aa (l:=out) (j:=out.length-1) (by omega))).1
     have sm:=xi (nth out (out.length-1)).tags (nth s j).tags (by omega) (by have:=hx.1;omega)
     simp only[ct,decide_false]at sm
     have e3:=hr.el (out.length-1) (by omega)
     have e4:=hr.ha (out.length-1) (by omega)
     have ci:(out.length:Int)-1=((out.length-1:Nat):Int):=by omega
     generalize nth out (out.length-1)=y at*
     generalize out.length-1=k at*
     obtain⟨ta,wa⟩:=y
     generalize nth s j=x at*
     obtain⟨tb,wb⟩:=x
     simp only[tdS,ints]at*
     have g4:fa k<H.length:=mK e4
     simp (disch:=omega) only[go_sem,K.gv,↓reduceIte,ex,ci,sm,e1,e2,e3,e4,cw,ir,iS,gq,Jf,mq,rA,Nat.add_assoc,Bool.false_eq_true,whs,Nat.reduceAdd,Nat.reduceSub]
   · generalize nth s j=x at*
     obtain⟨tb,wb⟩:=x
     simp only[tdS,ints]at*
     simp (disch:=omega) only[go_sem,K.gv,↓reduceIte,ex,e1,e2,cw,ir,iS,gq,Jf,mq,rA,Nat.add_assoc,whs,Nat.reduceAdd,Nat.reduceSub]
theorem Rw{H:aj}{id:Nat}{es:List D}{fa fb:Nat→Nat}{out:List World}(hr:Rp H id es fa fb out):bQ (Go.Ev.frz H 7) es=some (out.map World.e):=by
 have hl:=hr.len
 have key:∀(j:Nat) (hj:j<out.length),Go.Ev.frz H 7 (.agg [.ref (fa j) 0 (nth out j).tags.length,.ref (fb j) 0 (nth out j).whr.length])=some (nth out j).e:=by
  intro j hj
  have h1:=hr.ha j hj
  have h2:=hr.hb j hj
  simp (disch:=omega) only[go_sem,h1,h2,ints,whs,↓reduceIte]
 have:∀(es:List D) (ts:List T),es.length=ts.length→(∀(j:Nat) e t,es[j]?=some e→ts[j]?=some t→Go.Ev.frz H 7 e=some t)→bQ (Go.Ev.frz H 7) es=some ts:=by
  intro es
  induction es with
  | nil=>intro ts h _;cases ts with
    | nil=>rfl
    | cons=>simp at h
  | cons e es ih=>
    intro ts h hh
    cases ts with
    | nil=>simp at h
    | cons t ts=>
      have h1:=hh 0 e t rfl rfl
      have h2:=ih ts (by simpa using h) fun j e t he ht=>hh (j+1) e t (by simpa using he) (by simpa using ht)
      simp only[bQ,h1,Option.bind_some,h2,Option.map_some]
 refine this es _ (by rw[List.length_map,hl]) fun j e t he ht=>?_
 have hj:j<out.length:=by rw[← hl];exact(List.getElem?_eq_some_iff.1 he).1
 rw[hr.el j hj]at he
 rw[dz _ hj]at ht
 cases he;cases ht
 exact key j hj
theorem Hm{H:aj}{id sz n:Nat}{pin:Bool}{es:List D}{ts:List T}(hid:H[id]?=some (.arr sz pin 0 es))(hn:n=es.length)(hf:bQ (Go.Ev.frz H 7) es=some ts):finish 0 0 H [.ref id 0 n]=some (.t (.sl ts),[]):=by
 have e:Go.Ev.frz H depth (.ref id 0 n)=some (.sl ts):=by
  have ha:fW H id 0 n=some (sz,pin,es):=by simp only[fW,hid];rw[if_pos ⟨trivial,hn⟩]
  show((fW H id 0 n).bind fun a=>bQ (Go.Ev.frz H 7) a.2.2).map T.sl=_
  rw[ha,Option.bind_some,hf];rfl
 have o1:[D.t (T.sl ts)].all (old 0 depth)=true:=by simp[old]
 unfold finish
 simp only[if_true,bQ,uI,e,Option.map_some,Option.bind_some,o1,List.take_zero,List.all_nil,Bool.and_self,iy,Nat.zero_le,decide_true,s9]
 rw[if_pos (by simp)]
def tdP(s:List World)(j:Nat)(st:St):Prop:=
 ∃H es fa fb out,st=tdS s 1 out.length (j:Int) H∧Rp H 1 es fa fb out∧out=(s.take j).foldl pX []
theorem ML{m:aT}(hm:m.ok){first:List Int}{out:List World}(h:∀y∈out,WV m first y){x:World}(hx:WV m first x):∀y∈pX out x,WV m first y:=by
 intro y hy
 unfold pX at hy
 split at hy
 · rename_i c
   obtain⟨c0,c1⟩:=c
   have wk:=h _ (aa (l:=out) (j:=out.length-1) (by omega))
   have w1:=wk.wl
   have w2:=hx.wl
   rcases List.mem_or_eq_of_mem_set hy with a | rfl
   · exact h y a
   · exact⟨hx.pm,by rw[gy,gJ];exact w1,sY hm wk.wv hx.wv _ (by omega) (by omega)⟩
 · rcases List.mem_append.1 hy with hy | hy
   · exact h y hy
   · rw[List.mem_singleton.1 hy];exact hx
theorem F5{m:aT}(hm:m.ok){first:List Int}{s:List World}(hs:∀x∈s,WV m first x):∀j,j≤s.length→(∀y∈(s.take j).foldl pX [],WV m first y)∧((s.take j).foldl pX []).length≤j
 | 0,_=>⟨fun y hy=>by simp at hy,by simp⟩
 | j+1,h=>by
   obtain⟨a,b⟩:=F5 hm hs j (by omega)
   rw[iP (by omega),List.foldl_append]
   generalize (s.take j).foldl pX []=out at*
   simp only[List.foldl_cons,List.foldl_nil]
   refine⟨ML hm a (hs _ (aa (by omega))),?_⟩
   unfold pX
   split
   · rw[List.length_set];omega
   · rw[List.length_append,List.length_singleton];omega
theorem WV.wsz{m:aT}(hm:m.ok){first:List Int}(f2:first.length≤12){x:World}(h:WV m first x):x.sz:=by
 have np:=hm.np
 have l1:=h.pm.length_eq
 have l2:=h.wl
 exact⟨by omega,by omega,fun w hw=>by have:=(bZ (h.wv w hw)).1;omega⟩
theorem zQ{m:aT}(hm:m.ok){first:List Int}(pr:eC first=true)(f1:1≤first.length)(f2:first.length≤12){s:List World}(hs:∀x∈s,WV m first x)(so:Eu s):∀j,j≤s.length→
 (s.take j).foldl pX []=(s.take j).foldl gK []∧BV m first ((s.take j).foldl gK [])∧∀w∈(s.take j).foldl gK [],∃k,k<j∧w.tags=(nth s k).tags
 | 0,_=>⟨rfl,⟨pr,f1,f2,(fun x hx=>by cases hx),List.Pairwise.nil⟩,fun w hw=>by simp at hw⟩
 | j+1,h=>by
   obtain⟨e,bv,fr⟩:=zQ hm pr f1 f2 hs so j (by omega)
   rw[iP (by omega),List.foldl_append,List.foldl_append,e]
   simp only[List.foldl_cons,List.foldl_nil]
   have hx:=hs _ (aa (l:=s) (j:=j) (by omega))
   generalize (s.take j).foldl gK []=out at*
   refine⟨(zP bv.up fun h0=>?_).symm,nE hm bv hx,fun w hw=>?_⟩
   · obtain⟨k,hk,ek⟩:=fr _ (aa (l:=out) (j:=out.length-1) (by omega))
     rw[ek]
     have:=(List.pairwise_iff_getElem.1 so) k j (by omega) (by omega) hk
     rwa [← bB (List.getElem?_eq_getElem (by omega:k<s.length)),←bB (List.getElem?_eq_getElem (by omega:j<s.length))]at this
   · unfold gK at hw
     split at hw
     · rcases List.mem_or_eq_of_mem_set hw with a | rfl
       · obtain⟨k,hk,ek⟩:=fr w a;exact⟨k,by omega,ek⟩
       · exact⟨j,by omega,rfl⟩
     · simp only[List.mem_append,List.mem_singleton]at hw
       rcases hw with(hw | rfl) | hw
       · obtain⟨k,hk,ek⟩:=fr w (List.mem_of_mem_take hw);exact⟨k,by omega,ek⟩
       · exact⟨j,by omega,rfl⟩
       · obtain⟨k,hk,ek⟩:=fr w (List.mem_of_mem_drop hw);exact⟨k,by omega,ek⟩
theorem MM{m:aT}(hm:m.ok){first:List Int}(pr:eC first=true)(f1:1≤first.length)(f2:first.length≤12)(l:List World)(hl:∀x∈l,WV m first x)(h0:0<l.length)(h20:l.length<20):
 aN 0 N.fS [.t (.sl (l.map World.e))] []=some (.t (.sl ((m7 l).map World.e)),[]):=by
 obtain⟨s,hs,pm,so⟩:=Hi l (fun w hw=>(hl w hw).wsz hm f2) h0 h20
 have hv:=fun x hx=>hl x (pm.mem_iff.1 hx)
 have ln:=pm.length_eq
 have td:(s.take s.length).foldl pX []=m7 l:=by
  rw[(zQ hm pr f1 f2 hv so s.length (Nat.le_refl _)).1,List.take_length,←rF]
  exact Hl hm pr f1 f2 pm hv
 have loop:∀z0 z1 z2 z4 z5 z6 z10 z11:D,∃q,exS aN K.r7 ⟨[z0,z1,z2,.ref 1 0 0,z4,z5,z6,.t (.sl (s.map World.e)),I s.length,I 0,z10,z11],[.box [.t (.sl (l.map World.e))],.arr 2 false 0 []]⟩=some q∧∃H es fa fb,q=(.exit 0,tdS s 1 (m7 l).length s.length H)∧Rp H 1 es fa fb (m7 l):=by
  intro z0 z1 z2 z4 z5 z6 z10 z11
  refine JL (tdP s) s.length _ ?_ ?_ ?_
  · exact⟨_,[],fun _=>0,fun _=>0,[],rfl,⟨rfl,rfl,fun j hj=>by simp at hj,fun j hj=>by simp at hj,fun j hj=>by simp at hj,fun j hj=>by simp at hj,fun j hj=>by simp at hj,fun i j hi=>by simp at hi,fun i j hi=>by simp at hi⟩,rfl⟩
  · rintro j st hj ⟨H,es,fa,fb,out,rfl,hr,ho⟩
    obtain⟨a,b⟩:=F5 hm hv j (by omega)
    rw[← ho]at a b
    have wx:=hv _ (aa (l:=s) (j:=j) hj)
    obtain⟨H',es',fa',fb',r1,r2⟩:=MK s (by omega) hj (wx.wsz hm f2) out (by omega) (fun x hx=>(a x hx).wsz hm f2) H 1 es fa fb hr (fun h=>by
     rw[wx.wl,(a _ (aa (l:=out) (j:=out.length-1) (by omega))).wl])
    refine .inl ⟨_,r1,H',es',fa',fb',_,rfl,r2,?_⟩
    rw[iP hj,List.foldl_append,←ho];rfl
  · rintro st ⟨H,es,fa,fb,out,rfl,hr,ho⟩
    rw[td]at ho
    subst ho
    refine⟨(.exit 0,tdS s 1 (m7 l).length s.length H),?_,by simp,H,es,fa,fb,rfl,hr⟩
    simp only[tdS]
    simp (disch:=omega) only[go_sem,K.gv,↓reduceIte,Nat.reduceAdd,Nat.reduceSub]
 refine ax K.pV rfl ?_
 have va:=Hg l
 obtain⟨q,hq,H,es,fa,fb,rfl,hr⟩:=loop (.t (.sl (l.map World.e))) .nil (.t (.sl (s.map World.e))) .und .und .und .und .und
 have fin:=Hm hr.arr hr.len.symm (Rw hr)
 simp only[tdS]at hq
 simp (disch:=omega) only[go_sem,K.fS,↓reduceIte,va,hs,hq,fin,Nat.reduceAdd,Nat.reduceSub]
end Go.Ev
namespace Go.Ev
open Go
variable [Lib] [cn] [bS] [iE] [iv] [lU] [gV] [gW] [kt] [iJ] [hX] [fT]
theorem Hn{m:aT}(h:m.ok)(b:Bel)(hs:b.sz):aN 0 N.eE [.t m.e,.t b.e] []=some (B (qf m b),[]):=by
 rw[← MF]
 refine ax K.pR rfl ?_
 obtain⟨h1,h2⟩:=hs
 have v:=lq h
 obtain⟨ws⟩:=b
 simp only at h1 h2
 have li:=I8 ws.length 1 24
 unfold ME
 simp only
 by_cases c:1≤ws.length∧ws.length≤24
 · have li:aN 0 N.eM [I ws.length,I 1,I 24] []=some (B true,[]):=by rw[li,decide_eq_true (by omega)]
   have e0:(ws.map World.e)[0]?=some (nth ws 0).e:=dz _ (by omega)
   have sz:=(h2 _ (aa (l:=ws) (j:=0) (by omega))).1
   have loop:=fun a b c d e=>uh (gc:=true) (dead:=[0,1,4,6,7]) (c:=K.bH) (vs:=[a,b,.bp 0 0,.bp 1 0,c,.t (tL (iL (nth ws 0).tags)),d,e,.t (.sl (ws.map World.e)),I ws.length,I 0]) (H:=[.box (af m),.box [.t (.sl (ws.map World.e))],.box [.t (tL (nth ws 0).tags)]])
    (swS m ws (nth ws 0).tags) ws.length (fun j=> !pwB m ws (nth ws 0).tags j) (fun _ q=>q.1= .ret∧q.2.vs[4]?=some (B false))
    (.exit 0,swS m ws (nth ws 0).tags ws.length) rfl
    (fun j hj hp=>(J7 h ws _ sz h2 j hj h1).1 (by simpa using hp))
    (fun j hj hp=>by
     obtain⟨q,q1,q2,q3⟩:=(J7 h ws _ sz h2 j hj h1).2 (by simpa using hp)
     exact⟨q,q1,by rw[q2];simp,q2,q3⟩)
    (by simp (disch:=omega) only[go_sem,K.bH,swS,↓reduceIte,Nat.reduceAdd,Nat.reduceSub]) (by simp)
   rw[pz]
   have va:=yn (nth ws 0).tags
   have so:=yo (nth ws 0).tags sz
   have loop:=loop (.t m.e) (.t (Bel.e ⟨ws⟩)) (B false) .und .und
   generalize nth ws 0=x at*
   obtain⟨first,whr⟩:=x
   simp only[swS]at*
   generalize iL first=sf at*
   rcases loop with⟨e1,e2⟩ | ⟨j,⟨x,vs,H⟩,e1,e2,e3,e4⟩
   · have e2:exS aN K.od _=_:=e2
     simp (disch:=omega) only[go_sem,K.eE,↓reduceIte,v,li,e0,va,so,c,and_self,decide_true,Bool.true_and,e1,e2,Option.isNone,Nat.reduceAdd,Nat.reduceSub]
   · have e2:exS aN K.od _=_:=e2
     simp only at e3 e4
     subst e3
     simp (disch:=omega) only[go_sem,K.eE,↓reduceIte,v,li,e0,va,so,c,and_self,decide_true,Bool.true_and,e1,e2,Option.isNone,Nat.reduceAdd,Nat.reduceSub]
     simp (disch:=omega) only[go_sem,iw,e4,List.take_zero]
 · have li:aN 0 N.eM [I ws.length,I 1,I 24] []=some (B false,[]):=by rw[li,decide_eq_false (by omega)]
   simp (disch:=omega) only[go_sem,K.eE,↓reduceIte,v,li,c,decide_false,Bool.false_and,Nat.reduceAdd,Nat.reduceSub]
end Go.Ev
namespace Go.Ev
open Go
variable [Lib] [cn] [bS] [gV] [gW]
abbrev MN:Int:=2147483648
section
variable {m : aT} (h : m.ok) {fl : List Spn}
include h
end
end Go.Ev
namespace Go.Ev
open Go
def clP(m:aT)(fl:List Spn)(y:List Int):Prop:=∀k,k<m.roads.length→∀back,0≤vi (nth m.roads k) (nth fl k) back→
 nth y ((nth m.roads k).src back).toNat+vi (nth m.roads k) (nth fl k) back≤MN→
 nth y ((nth m.roads k).dst back).toNat≤nth y ((nth m.roads k).src back).toNat+vi (nth m.roads k) (nth fl k) back
variable [Lib] [cn] [bS] [gV] [gW]
end Go.Ev
namespace Go.Ev
open Go
variable [Lib] [cn] [bS] [gV] [gW]
def ZT(l:List Int):Prop:=∀x∈l,0≤x∧(x≤MN∨x=1099511627776)
theorem ZT.bnd{l:List Int}(h:ZT l):bnd l:=fun x hx=>by have:=h x hx;simp only[MN]at this;omega
end Go.Ev
namespace Go.Ev
open Go
variable [Lib] [cn] [bS] [iE] [iv] [gV] [gW]
structure VC(m:aT)(fl:List Spn)(s:Wh):Prop where
 ln:s.frm.length=m.places.length
 ti:inT s.time
 tm:ZT s.frm
 lo:∀x∈s.frm,s.time≤x
 cl:clP m fl s.frm
theorem VC.valid{m:aT}{fl:List Spn}{s:Wh}(h:VC m fl s):Js m s=true:=by
 simp only[Js,Bool.and_eq_true,decide_eq_true_eq,List.all_eq_true,List.mem_range]
 refine⟨fun j hj=>?_,h.ln,h.ti⟩
 have a:=h.tm _ (aa hj)
 have b:=h.lo _ (aa hj)
 unfold plS
 simp only[MN]at a
 omega
end Go.Ev
namespace Go.Ev
open Go
variable [Lib] [cn] [bS] [iE] [iv] [lU] [gV] [gW] [kt] [iJ] [hX] [fT]
section
variable {m : aT} (hm : m.ok) (l : List Mch) (hl : l.length ≤ 1000) (hp : ∀ x ∈ l, x.pl.length ≤ 1000000) (s : Wh) (hs : s.frm.length ≤ 1000000) (b : Bel) (hb : b.sz) (t a : Int)
include hm hl hp hs hb
end
end Go.Ev
namespace Go.Ev
open Go
variable [Lib] [cn] [bS] [iE] [iv] [gV] [gW]
end Go.Ev
namespace Go.Ev
open Go
variable [Lib] [cn] [bS]
def sh(s x:Int):Int:=if x<1099511627776 then x+s else x
end Go.Ev
namespace Go.Ev
open Go
variable [Lib] [cn] [bS] [iE] [iv] [lU] [gV] [gW] [kt] [iJ]
theorem qY(l:List Int)(x:Int){j:Nat}(hj:j<l.length):nth (l++[x]) j=nth l j:=by
 unfold nth;simp[List.getD_eq_getElem?_getD,List.getElem?_append_left hj]
theorem Kl(l:List Int)(x:Int):nth (l++[x]) l.length=x:=by
 unfold nth;simp[List.getD_eq_getElem?_getD]
def ZU(m:aT)(A:List Int)(k:Nat)(back:Bool)(d e:Nat):Prop:=k<m.roads.length∧0≤eX m k back 6 9 12∧(e:Int)=d+max 1 (eX m k back 6 9 12)∧(∀τ,d≤τ→τ<e→nth A τ=(nth m.roads k).src back)∧nth A e=(nth m.roads k).dst back∧e<A.length
theorem ZU.snoc{m:aT}{A:List Int}{k:Nat}{back:Bool}{d e:Nat}(h:ZU m A k back d e)(x:Int):ZU m (A++[x]) k back d e:=by
 obtain⟨h1,h2,h3,h4,h5,h6⟩:=h
 refine⟨h1,h2,h3,fun τ a b=>?_,?_,by simp;omega⟩
 · rw[qY _ _ (by omega)];exact h4 τ a b
 · rw[qY _ _ h6];exact h5
theorem Km{l:List Int}{n:Nat}(h:sI l n=true):sI l ((n+1:Nat):Int)=true∧sI (l++[(n:Int)]) ((n+1:Nat):Int)=true:=by
 simp only[sI,List.all_eq_true,List.mem_range,decide_eq_true_eq]at h ⊢
 refine⟨fun j hj=>?_,fun j hj=>?_⟩
 · obtain⟨a,b,c⟩:=h j hj;exact⟨a,by omega,c⟩
 · by_cases c:j<l.length
   · obtain⟨a,b,c⟩:=h j c
     rw[qY _ _ (by omega)]
     refine⟨a,by omega,fun hj=>?_⟩
     rw[qY _ _ (by omega)];exact c hj
   · have e:j=l.length:=by simp at hj;omega
     subst e
     rw[Kl]
     refine⟨by omega,by omega,fun hj=>?_⟩
     rw[qY _ _ (by omega)]
     exact(h (l.length-1) (by omega)).2.1
theorem zR(d:aC):∀n:Nat,sI (d.lk n).1 n=true
 | 0=>rfl
 | n+1=>by
   have ih:=zR d n
   have:=Km ih
   simp only[aC.lk]
   split
   · exact this.2
   · exact this.1
end Go.Ev
namespace Go.Ev
open Go
variable [Lib] [cn] [bS] [iE] [iv] [lU] [gV] [gW] [kt] [iJ] [hX] [fT]
theorem Rx{m:aT}(hm:m.ok){b:Bel}(hb:qf m b=true)(tag:Int)(l:List Int)(a c:Int):qf m (qT m b tag l a c).1=true:=by
 unfold qT
 split
 · exact hb
 · split
   · exact hb
   · split
     · exact hb
     · rename_i h
       obtain⟨ws⟩:=b
       have bv:=VA hm (wC hb) tag l a c
       have ln:=ur m tag l a c ws ws.length
       obtain⟨h1,h2, -⟩:=fN hb
       simp only at h1 h2 h ⊢
       exact bv.bel (by omega) (by omega)
theorem Ry{m:aT}(hm:m.ok){b:Bel}(hb:qf m b=true)(tag:Int)(l:List Int)(a c bl:Int):qf m (qU m b tag l a c bl).1=true:=by
 unfold qU
 split
 · exact hb
 · split
   · exact hb
   · obtain⟨ws⟩:=b
     have bv:=VB hm (wC hb) tag l a c bl
     have ln:=uu m tag l a c bl ws ws.length
     obtain⟨h1,h2, -⟩:=fN hb
     simp only at h1 h2 ⊢
     exact bv.bel (by omega) (by omega)
theorem MO{m:aT}(hm:m.ok){b:Bel}(hb:qf m b=true)(i j t:Int):qf m (mX m b i j t).1=true:=by
 unfold mX
 split
 · exact hb
 · split
   · exact hb
   · rename_i hij
     split
     · exact hb
     · split
       · exact hb
       · rename_i hl
         obtain⟨ws⟩:=b
         have bv:=wC hb
         obtain⟨h1,h2, -⟩:=fN hb
         simp only at h1 h2 hl hij ⊢
         have nb:=uB hm bv.wv (i:=i.toNat) (j:=j.toNat) (by omega) (by omega) t ws.length (Nat.le_refl _)
         have el:=rD i.toNat j.toNat t ws ws.length
         have tv:=AU hm bv.pr bv.f1 bv.f2 nb _ (Nat.le_refl _)
         refine BV.bel tv ?_ (Nat.not_lt.1 hl)
         have t1:∀k,1≤k→1≤(oM (iu i.toNat j.toNat t ws ws.length) k).length:=by
          intro k hk
          obtain⟨k,rfl⟩:∃k',k=k'+1:=⟨k-1,by omega⟩
          exact(uw _ _).2.2
         exact t1 _ (by omega)
theorem vo{m:aT}(hm:m.ok){n:Int}{s:BSt}(hb:qf m s.b=true):∀k,qf m (aC.vn m n s k).b=true
 | 0=>hb
 | k+1=>by
   have ih:=vo hm (n:=n) hb k
   simp only[aC.vn]
   generalize aC.vn m n s k=q at*
   unfold aC.kh
   simp only
   split
   · simp only
     split
     · exact MO hm ih _ _ _
     · exact ih
   · split
     · simp only
       split
       · exact Rx hm ih _ _ _ _
       · exact ih
     · simp only
       split
       · exact Ry hm ih _ _ _ _ _
       · exact ih
theorem zS{m:aT}(hm:m.ok)(h1:1≤m.places.length)(d:aC):qf m (d.HW m).b=true:=by
 have pb:=yx d
 have tl:=kg d.oh
 have sl:(d.lV m).1.length=d.oh:=aC.jR _ _ _
 have t0:=(d.lV m).2.dD 100
 have t9:=(d.lV m).2.dE (n:=100) (by omega)
 have pr:=wA (n:=d.oh) (by omega)
 unfold aC.HW
 rw[AO hm h1]
 refine BV.bel (first:=pU d.oh) ⟨pr,by omega,by omega,fun x hx=>?_,by simp⟩ (by simp) (by simp)
 rw[List.mem_singleton.1 hx]
 refine⟨List.Perm.refl _,by simp,fun w hw=>?_⟩
 simp only[gu,List.mem_map,List.mem_range]at hw
 obtain⟨i,hi,rfl⟩:=hw
 have hi:i<(d.lV m).1.length:=by rw[sl,←tl];exact hi
 have:=qW (d.next 3).2 (n:=m.places.length) (by omega) d.oh _ (aa hi)
 exact(pE hm this.1 this.2 ⟨by omega,by omega⟩).2
theorem CR{m:aT}(hm:m.ok)(h1:1≤m.places.length)(d:aC):qf m (d.qV m).1=true:=vo hm (zS hm h1 d) _
end Go.Ev
namespace Go.Ev
open Go
variable [Lib] [cn] [bS] [iE] [iv] [lU] [gV] [gW] [kt] [iJ] [hX] [fT] [qb] [jr]
end Go.Ev
namespace Go.Ev
open Go
variable [Lib] [cn] [bS] [iE] [iv]
def AX(m:aT)(area:List Int)(r:Nat):Bool:= !(nth m.roads r).closed&&(decide (0≤eX m r false 6 9 12)||decide (0≤eX m r true 6 9 12))&&(decide ((nth m.roads r).frm∈area) != decide ((nth m.roads r).to∈area))
def kq(m:aT)(area:List Int):List Int:=cq m.roads.length (AX m area)
theorem Kn{m:aT}(h:m.ok)(area:List Int)(ha:area.length≤1000000):aN 0 N.eR [.t m.e,.t (tL area)] []=some (.t (tL (kq m area)),[]):=by
 refine ax K.n5 rfl ?_
 have nr:=h.nr
 have loop:∀a b c d:D,exS aN K.qM ⟨[a,.t (tL area),.bp 0 0,b,.ref 1 0 0,I 0,c,d],[.box (af m),.arr 1 false 0 []]⟩=
  some (.exit 0,⟨[.und,.t (tL area),.bp 0 0,.und,.ref 1 0 (kq m area).length,I m.roads.length,.und,.und],[.box (af m),.arr 1 false 0 (((kq m area).map (T.int .i64)).map .t)]⟩):=by
  intro a b c d
  refine b5 (fun r=>⟨[.und,.t (tL area),.bp 0 0,.und,.ref 1 0 (cq r (AX m area)).length,I r,.und,.und],[.box (af m),.arr 1 false 0 (((cq r (AX m area)).map (T.int .i64)).map .t)]⟩) m.roads.length rfl ?_ ?_ (by simp)
  · intro r hr
    have g:(m.roads.map Road.e)[r]?=some (nth m.roads r).e:=dz _ hr
    have t1:=Ax h r hr false
    have t2:=Ax h r hr true
    have h1:=zu area (nth m.roads r).frm (by omega)
    have h2:=zu area (nth m.roads r).to (by omega)
    have ws:=kG r (AX m area)
    have wl:=gR r (AX m area)
    have hb:AX m area r=(!(nth m.roads r).closed&&(decide (0≤eX m r false 6 9 12)||decide (0≤eX m r true 6 9 12))&&(decide ((nth m.roads r).frm∈area) != decide ((nth m.roads r).to∈area))):=rfl
    generalize AX m area=p at*
    generalize eX m r false 6 9 12=w1 at*
    generalize eX m r true 6 9 12=w2 at*
    generalize nth m.roads r=x at*
    generalize cq r p=out at*
    obtain⟨frm,to,len,ar,walk,closed,rl,rh,ll,lh⟩:=x
    simp only at*
    generalize decide (frm∈area)=b1 at*
    generalize decide (to∈area)=b2 at*
    obtain⟨places,roads⟩:=m
    simp only[af]at*
    by_cases c1:0≤w1<;>by_cases c2:0≤w2<;>cases closed<;>cases b1<;>cases b2<;>simp only[c1,c2,decide_true,decide_false,Bool.not_true,Bool.not_false,Bool.true_or,Bool.or_true,Bool.or_false,Bool.false_or,Bool.true_and,Bool.and_true,Bool.false_and,Bool.and_false,bne_self_eq_false,Bool.bne_true,Bool.bne_false]at hb<;>simp only[hb,if_true,if_false,Bool.false_eq_true]at ws<;>
     simp (disch:=omega) only[go_sem,K.lK,↓reduceIte,g,t1,t2,h1,h2,ws,Nat.reduceAdd,Nat.reduceSub]
  · simp (disch:=omega) only[go_sem,K.lK,↓reduceIte,kq,af,Nat.reduceAdd,Nat.reduceSub]
 have bl:=gR m.roads.length (AX m area)
 simp only[kq]at*
 generalize cq m.roads.length (AX m area)=L at*
 obtain⟨places,roads⟩:=m
 simp only[af]at*
 simp (disch:=omega) only[go_sem,K.eR,↓reduceIte,loop,Nat.reduceAdd,Nat.reduceSub]
def wE(r:Road):Road:={ r with walk:=false}
def zT(roads:List Road)(l:List Int):Nat→List Road
 | 0=>roads
 | k+1=>(zT roads l k).set (nth l k).toNat (wE (nth (zT roads l k) (nth l k).toNat))
theorem kX(roads:List Road)(l:List Int):∀k,(zT roads l k).length=roads.length
 | 0=>rfl
 | k+1=>by simp only[zT,List.length_set,kX roads l k]
def dn(m:aT)(l:List Int):aT:=⟨m.places,zT m.roads l l.length⟩
def iH(m:aT)(l:List Int):aT×Int:=if sI l m.roads.length=false then(⟨[],[]⟩,4)else(dn m l,0)
theorem CS(m:aT)(hp:m.places.length≤1000000)(hr:m.roads.length≤1000000):aN 1 N.gT [.t m.e] []=some (.agg [.ref 0 0 m.places.length,.ref 1 0 m.roads.length],[.arr 2 false 0 ((m.places.map Place.e).map .t),.arr 10 false 0 ((m.roads.map Road.e).map .t)]):=by
 refine ax K.qQ rfl ?_
 obtain⟨places,roads⟩:=m
 simp only at*
 simp (disch:=omega) only[go_sem,K.gT,↓reduceIte,Nat.reduceAdd,Nat.reduceSub]
theorem F6(ts:List T)(i:Nat)(x:T):(ts.map D.t).set i (.t x)=(ts.set i x).map .t:=by simp
theorem uD{l:List Int}{n:Int}(h:sI l n=true){j:Nat}(hj:j<l.length):0≤nth l j∧nth l j<n:=by
 unfold sI at h
 rw[List.all_eq_true]at h
 have:=h j (List.mem_range.2 hj)
 simp only[decide_eq_true_eq]at this
 exact⟨this.1,this.2.1⟩
theorem Ko{m:aT}(h:m.ok)(l:List Int)(hl:l.length≤1000000):aN 0 N.ec [.t m.e,.t (tL l)] []=some (.tup [.t (iH m l).1.e,I (iH m l).2],[]):=by
 refine ax K.oa rfl ?_
 have ck:=ru h
 have st:=NF l m.roads.length (by omega)
 have np:=h.np
 have nr:=h.nr
 have cp:=CS m (by omega) (by omega)
 unfold iH
 cases hs:sI l m.roads.length with
 | false=>
   rw[hs]at st
   obtain⟨places,roads⟩:=m
   simp only at*
   simp (disch:=omega) only[go_sem,K.ec,↓reduceIte,ck,st,Nat.reduceAdd,Nat.reduceSub,List.map_nil]
   rfl
 | true=>
   rw[hs]at st
   have sp:=fun j hj=>uD (j:=j) hs hj
   clear hs
   obtain⟨places,roads⟩:=m
   simp only at*
   have loop:∀a c:D,exS aN K.qO ⟨[a,.t (tL l),.bp 0 0,.bp 1 0,c,I 0],[.box [.ref 2 0 places.length,.ref 3 0 roads.length],.box [.nil,.nil],.arr 2 false 0 ((places.map Place.e).map .t),.arr 10 false 0 ((roads.map Road.e).map .t)]⟩=
    some (.exit 0,⟨[.und,.t (tL l),.bp 0 0,.bp 1 0,.und,I l.length],[.box [.ref 2 0 places.length,.ref 3 0 roads.length],.box [.nil,.nil],.arr 2 false 0 ((places.map Place.e).map .t),.arr 10 false 0 (((zT roads l l.length).map Road.e).map .t)]⟩):=by
    intro a c
    refine b5 (fun k=>⟨[.und,.t (tL l),.bp 0 0,.bp 1 0,.und,I k],[.box [.ref 2 0 places.length,.ref 3 0 roads.length],.box [.nil,.nil],.arr 2 false 0 ((places.map Place.e).map .t),.arr 10 false 0 (((zT roads l k).map Road.e).map .t)]⟩) l.length rfl ?_ ?_ (by simp)
    · intro k hk
      obtain⟨s1,s2⟩:=sp k hk
      have bl:=kX roads l k
      have bl2:=kX roads l (k+1)
      simp only[zT]at*
      generalize hy:nth l k=y at*
      obtain⟨i,rfl⟩:=Int.eq_ofNat_of_zero_le s1
      simp only[Int.toNat_natCast]at*
      have gx:(nth (zT roads l k) i)=(nth (zT roads l k) i):=rfl
      generalize hR:zT roads l k=R at*
      have g:((R.map Road.e).map D.t)[i]?=some (.t (nth R i).e):=xc _ _ (by omega)
      have hset:((R.set i (wE (nth R i))).map Road.e).map D.t=((R.map Road.e).map D.t).set i (.t (wE (nth R i)).e):=by simp
      rw[hset]
      generalize nth R i=x at*
      obtain⟨frm,to,len,ar,walk,closed,rl,rh,ll,lh⟩:=x
      simp only[wE]at*
      simp (disch:=omega) only[go_sem,K.lL,↓reduceIte,hy,g,F6,Nat.reduceAdd,Nat.reduceSub]
    · have bl:=kX roads l l.length
      simp (disch:=omega) only[go_sem,K.lL,↓reduceIte,Nat.reduceAdd,Nat.reduceSub]
   have bl:=kX roads l l.length
   simp only[dn]
   generalize zT roads l l.length=R at*
   simp (disch:=omega) only[go_sem,K.ec,↓reduceIte,ck,st,cp,loop,Nat.reduceAdd,Nat.reduceSub,Bool.true_eq_false]
theorem Kp{n:Nat}{r:Road}(h:r.ok n):(wE r).ok n:=⟨h.f0,h.f1,h.t0,h.t1,h.ne,h.l0,h.l1,h.a0,h.a1,h.r0,h.r1,h.r2,h.i0,h.i1,h.i2⟩
theorem Kq{n:Nat}{roads:List Road}(h:∀r∈roads,r.ok n){l:List Int}(hl:∀j,j<l.length→0≤nth l j∧nth l j<roads.length):∀k,k≤l.length→∀r∈zT roads l k,r.ok n
 | 0,_,r,hr=>h r hr
 | k+1,hk,r,hr=>by
   have ih:=Kq h hl k (by omega)
   have bl:=kX roads l k
   obtain⟨h1,h2⟩:=hl k (by omega)
   simp only[zT]at hr
   rcases List.mem_or_eq_of_mem_set hr with h3 | h3
   · exact ih r h3
   · rw[h3];exact Kp (ih _ (aa (by omega)))
theorem zU{m:aT}(h:m.ok){l:List Int}(hs:sI l m.roads.length=true):(dn m l).ok:=
 ⟨h.np,by show(zT m.roads l l.length).length≤128;rw[kX];exact h.nr,h.hs,Kq h.rs (fun j hj=>uD hs hj) l.length (Nat.le_refl _)⟩
def pY(l:List Int)(t:Int):Nat→List Int
 | 0=>l
 | p+1=>if t<nth (pY l t p) p then(pY l t p).set p never else pY l t p
theorem kr(l:List Int)(t:Int):∀p,(pY l t p).length=l.length
 | 0=>rfl
 | p+1=>by unfold pY;split<;>simp only[List.length_set,kr l t p]
def vq(m:aT)(w:Wh)(t:Int):Wh:=⟨t,cD m t none (pY w.frm t w.frm.length)⟩
theorem CT{l:List Int}(h:bnd l)(t:Int):∀p,bnd (pY l t p)
 | 0=>h
 | p+1=>by
   have ih:=CT h t p
   unfold pY
   split
   · intro x hx
     rcases List.mem_or_eq_of_mem_set hx with h1 | h1
     · exact ih x h1
     · subst h1;decide
   · exact ih
theorem CU{H H':aj}:∀(k:Nat) (d:D),(∀i∈fq H k d,∃sz pin pin' ep es,H[i]?=some (.arr sz pin ep es)∧H'[i]?=some (.arr sz pin' ep es))→frz H' k d=frz H k d∧fq H' k d=fq H k d:=by
 intro k
 induction k with
 | zero=>intro d _;cases d<;>exact⟨rfl,rfl⟩
 | succ k ih=>
   intro d h
   have list:∀es:List D,(∀i∈es.flatMap (fq H k),∃sz pin pin' ep es,H[i]?=some (.arr sz pin ep es)∧H'[i]?=some (.arr sz pin' ep es))→bQ (frz H' k) es=bQ (frz H k) es∧es.flatMap (fq H' k)=es.flatMap (fq H k):=by
    intro es
    induction es with
    | nil=>intro _;exact⟨rfl,rfl⟩
    | cons e es ihl=>
      intro he
      obtain⟨a1,a2⟩:=ih e fun i hi=>he i (by simp[hi])
      obtain⟨b1,b2⟩:=ihl fun i hi=>he i (by rw[List.flatMap_cons];exact List.mem_append_right _ hi)
      exact⟨by simp only[bQ,a1,b1],by simp only[List.flatMap_cons,a2,b2]⟩
   cases d with
   | agg cs=>
     simp only[fq]at h
     obtain⟨a1,a2⟩:=list cs h
     exact⟨by simp only[frz,a1],by simp only[fq,a2]⟩
   | ref id ep n=>
     obtain⟨sz,pin,pin',ep',es,e1,e2⟩:=h id (by simp[fq])
     have:∀i∈es.flatMap (fq H k),∃sz pin pin' ep es,H[i]?=some (.arr sz pin ep es)∧H'[i]?=some (.arr sz pin' ep es):=fun i hi=>h i (by simp only[fq,e1];exact List.mem_cons_of_mem _ hi)
     obtain⟨a1,a2⟩:=list es this
     refine⟨?_,by simp only[fq,e1,e2,a2]⟩
     simp only[frz,fW,e1,e2]
     by_cases c:ep=ep'∧n=es.length
     · simp only[if_pos c,Option.bind_some,a1]
     · simp only[if_neg c,Option.bind_none]
   | sub id ep n lo hi=>
     obtain⟨sz,pin,pin',ep',es,e1,e2⟩:=h id (by simp[fq])
     have:∀i∈es.flatMap (fq H k),∃sz pin pin' ep es,H[i]?=some (.arr sz pin ep es)∧H'[i]?=some (.arr sz pin' ep es):=fun i hi=>h i (by simp only[fq,e1];exact List.mem_cons_of_mem _ hi)
     obtain⟨a1,a2⟩:=list es this
     have:∀i∈((es.drop lo).take (hi-lo)).flatMap (fq H k),∃sz pin pin' ep es,H[i]?=some (.arr sz pin ep es)∧H'[i]?=some (.arr sz pin' ep es):=fun i hi=>by
      obtain⟨e,he,hi⟩:=List.mem_flatMap.1 hi
      exact this i (List.mem_flatMap.2 ⟨e,List.mem_of_mem_drop (List.mem_of_mem_take he),hi⟩)
     obtain⟨b1,b2⟩:=list _ this
     refine⟨?_,by simp only[fq,e1,e2,a2]⟩
     simp only[frz,fW,e1,e2]
     by_cases c:ep=ep'∧n=es.length
     · simp only[if_pos c,Option.bind_some,b1]
     · simp only[if_neg c,Option.bind_none]
   | _=>exact⟨rfl,rfl⟩
def lW(bm:aT)(t:Int)(ws:List Wh):Nat→List Wh
 | 0=>ws
 | k+1=>(lW bm t ws k).set k (vq bm (nth ws k) t)
theorem kS(bm:aT)(t:Int)(ws:List Wh):∀k,(lW bm t ws k).length=ws.length
 | 0=>rfl
 | k+1=>by simp only[lW,List.length_set,kS bm t ws k]
theorem rG(bm:aT)(t:Int)(ws:List Wh):∀k j,k≤ws.length→nth (lW bm t ws k) j=if j<k then vq bm (nth ws j) t else nth ws j
 | 0,j,_=>by simp[lW]
 | k+1,j,hk=>by
   have ih:=rG bm t ws k j (by omega)
   simp only[lW]
   rw[sV _ _ (by rw[kS];omega),ih]
   by_cases h1:j=k
   · subst h1;rw[if_pos rfl,if_pos (by omega)]
   · rw[if_neg h1]
     by_cases h2:j<k
     · rw[if_pos h2,if_pos (by omega)]
     · rw[if_neg h2,if_neg (by omega)]
def Ho(bm:aT)(t:Int)(x:World)(k:Nat):World:=⟨x.tags,lW bm t x.whr k⟩
def wF(bm:aT)(t:Int)(xs:List World):Nat→List World
 | 0=>xs
 | i+1=>(wF bm t xs i).set i (Ho bm t (nth xs i) (nth xs i).whr.length)
theorem rH(bm:aT)(t:Int)(xs:List World):∀k,(wF bm t xs k).length=xs.length
 | 0=>rfl
 | k+1=>by simp only[wF,List.length_set,rH bm t xs k]
theorem zV(bm:aT)(t:Int)(xs:List World):∀k j,k≤xs.length→nth (wF bm t xs k) j=if j<k then Ho bm t (nth xs j) (nth xs j).whr.length else nth xs j
 | 0,j,_=>by simp[wF]
 | k+1,j,hk=>by
   have ih:=zV bm t xs k j (by omega)
   simp only[wF]
   rw[sV _ _ (by rw[rH];omega),ih]
   by_cases h1:j=k
   · subst h1;rw[if_pos rfl,if_pos (by omega)]
   · rw[if_neg h1]
     by_cases h2:j<k
     · rw[if_pos h2,if_pos (by omega)]
     · rw[if_neg h2,if_neg (by omega)]
section
variable {bm : aT} (hm : bm.ok) {t : Int} (i : Nat) {H : aj} {io iB iO n a fbi tl : Nat} {es : List D} {whr : List Wh} (e1 : H[iO]? = some (.box [.ref io 0 n])) (e2 : H[io]? = some (.arr 2 false 0 es)) (e3 : es.length = n)
 (e4:es[i]?=some (.agg [.ref a 0 tl,.ref fbi 0 whr.length])) (e5:H[fbi]?=some (.arr 2 false 0 (whs whr))) (e6:H[iB]?=some (.box (af bm))) (hi:i<n) (hn:n≤1000000) (hl:whr.length≤1000000)
include hm e1 e2 e3 e4 e5 e6 hi hn hl
end
theorem Rp.app{H:aj}{id:Nat}{es:List D}{fa fb:Nat→Nat}{out:List World}(hr:Rp H id es fa fb out)(t:aj):Rp (H++t) id es fa fb out:=
 ⟨by rw[ir (mK hr.arr)];exact hr.arr,hr.len,hr.el,fun j hj=>by rw[ir (mK (hr.ha j hj))];exact hr.ha j hj,fun j hj=>by rw[ir (mK (hr.hb j hj))];exact hr.hb j hj,hr.na,hr.nb,hr.nab,hr.nbb⟩
structure SlH(H:aj)(b:List World)(bm:aT)(iB iO io:Nat)(es:List D)(fa fb:Nat→Nat)(A:List Nat)(O:List World):Prop where
 h1:H[1]?=some (.box [.ref 3 0 b.length])
 h2:H[2]?=some (.box [.nil])
 hB:H[iB]?=some (.box (af bm))
 hO:H[iO]?=some (.box [.ref io 0 O.length])
 rp:Rp H io es fa fb O
 ar:∀i∈A,∃sz pin ep es,H[i]?=some (.arr sz pin ep es)
 nA:∀i∈A,∀j,j<O.length→i≠fb j
 eA:fq H 7 (.ref 3 0 b.length)=A
 fr:frz H 7 (.ref 3 0 b.length)=some (.sl (b.map World.e))
theorem SlH.step{H:aj}{b:List World}{bm:aT}{iB iO io:Nat}{es:List D}{fa fb:Nat→Nat}{A:List Nat}{O:List World}(h:SlH H b bm iB iO io es fa fb A O){i:Nat}(hi:i<O.length)(x:World)(ht:(nth O i).tags=x.tags)
 (hw:x.whr.length=(nth O i).whr.length) (o:Obj):SlH (H.set (fb i) (.arr 2 false 0 (whs x.whr))++[o]) b bm iB iO io es fa fb A (O.set i x):=by
 have hb:=h.rp.hb i hi
 have nb:∀ {k:Nat} {cs:List D},H[k]?=some (.box cs)→(H.set (fb i) (.arr 2 false 0 (whs x.whr))++[o])[k]?=some (.box cs):=fun{k cs} hk=>by
  have ne:fb i≠k:=fun e=>by rw[e,hk]at hb;cases hb
  rw[ir (by rw[List.length_set];exact mK hk),jb ne];exact hk
 have na:∀k∈A,(H.set (fb i) (.arr 2 false 0 (whs x.whr))++[o])[k]?=H[k]?:=fun k hk=>by
  obtain⟨sz,pin,ep,es',e⟩:=h.ar k hk
  rw[ir (by rw[List.length_set];exact mK e),jb (fun e=>h.nA k hk i hi e.symm)]
 have fc:=CU (H:=H) (H':=H.set (fb i) (.arr 2 false 0 (whs x.whr))++[o]) 7 (.ref 3 0 b.length) (fun k hk=>by
  rw[h.eA]at hk
  obtain⟨sz,pin,ep,es',e⟩:=h.ar k hk
  exact⟨sz,pin,pin,ep,es',e,by rw[na k hk];exact e⟩)
 refine⟨nb h.h1,nb h.h2,nb h.hB,by rw[List.length_set];exact nb h.hO,(h.rp.merge hi x ht hw).app _,fun k hk=>?_,by rw[List.length_set];exact h.nA,by rw[fc.2];exact h.eA,by rw[fc.1];exact h.fr⟩
 obtain⟨sz,pin,ep,es',e⟩:=h.ar k hk
 exact⟨sz,pin,ep,es',by rw[na k hk];exact e⟩
def SlE(b:List World)(H:aj):Prop:=H[2]?=some (.box [.ref 3 0 b.length])∧frz H 7 (.ref 3 0 b.length)=some (.sl (b.map World.e))
theorem SlH.late{H:aj}{b:List World}{bm:aT}{iB iO io:Nat}{es:List D}{fa fb:Nat→Nat}{A:List Nat}{O:List World}(h:SlH H b bm iB iO io es fa fb A O)(o:Obj):SlE b (H.set 2 (.box [.ref 3 0 b.length])++[o]):=by
 have l2:=mK h.h2
 have fc:=CU (H:=H) (H':=H.set 2 (.box [.ref 3 0 b.length])++[o]) 7 (.ref 3 0 b.length) (fun k hk=>by
  rw[h.eA]at hk
  obtain⟨sz,pin,ep,es',e⟩:=h.ar k hk
  have ne:2≠k:=fun e2=>by rw[← e2,h.h2]at e;cases e
  exact⟨sz,pin,pin,ep,es',e,by rw[ir (by rw[List.length_set];exact mK e),jb ne];exact e⟩)
 exact⟨by rw[ir (by rw[List.length_set];exact l2),oI l2],by rw[fc.1];exact h.fr⟩
def Rz(t:Int)(ws:List Wh)(k:Nat):Bool:=decide (t<(nth ws k).time∨2147483648<t)
def Ez(t:Int)(xs:List World)(i:Nat):Bool:=(List.range (nth xs i).whr.length).any (Rz t (nth xs i).whr)
end Go.Ev
namespace Go.Ev
open Go
variable [Lib] [cn] [bS] [iE] [iv]
def yB(m:aT)(b:Bel)(bars:List Int)(t:Int):Bel×Int:=
 if qf m b=false then(b,6)else if(iH m bars).2≠0 then(b,(iH m bars).2)else if(List.range b.worlds.length).any (Ez t b.worlds)=true then(b,8)
 else(⟨m7 (wF (iH m bars).1 t b.worlds b.worlds.length)⟩,0)
end Go.Ev
namespace Go.Ev
open Go
variable [Lib] [cn] [bS] [iE] [iv] [lU] [gV] [gW] [kt] [iJ] [hX] [fT] [qb] [jr] [oK] [wK]
theorem Hp(l:List Place)(hl:l.length≤1000000):aN 0 N.aF [.t (.sl (l.map Place.e))] []=some (.t (.sl (l.map Place.e)),[]):=by
 refine ax K.dm rfl ?_
 by_cases h0:l=[]
 · subst h0
   simp only[List.map_nil]
   simp (disch:=omega) only[go_sem,K.aF,↓reduceIte,List.map_nil,Nat.reduceAdd,Nat.reduceSub]
 · have e:=fun H=>xa H (l.map Place.e) (by simpa using h0)
   simp (disch:=omega) only[go_sem,K.aF,↓reduceIte,e,Nat.reduceAdd,Nat.reduceSub]
theorem Hq(l:List Road)(hl:l.length≤1000000):aN 1 N.aK [.t (.sl (l.map Road.e))] []=some (.ref 0 0 l.length,[.arr 10 false 0 ((l.map Road.e).map .t)]):=by
 refine ax K.dF rfl ?_
 by_cases h0:l=[]
 · subst h0
   simp only[List.map_nil]
   simp (disch:=omega) only[go_sem,K.aK,↓reduceIte,List.map_nil,List.length_nil,Nat.reduceAdd,Nat.reduceSub]
 · have e:=fun H=>xa H (l.map Road.e) (by simpa using h0)
   simp (disch:=omega) only[go_sem,K.aK,↓reduceIte,e,Nat.reduceAdd,Nat.reduceSub]
theorem Hr{m:aT}(h:m.ok)(l:List Int)(hl:l.length≤1000000):aN 0 N.fm [.t m.e,.t (tL l)] []=some (.tup [.t (iH m l).1.e,I (iH m l).2],[]):=by
 refine ax K.pN rfl ?_
 have np:=h.np
 have nr:=h.nr
 have pv:=lq h
 have ri:=Cq l 0 ((m.roads.length:Int)-1) (by omega)
 rw[QQ]at ri
 have c1:=Hp m.places (by omega)
 have c2:=Hq m.roads (by omega)
 unfold iH
 cases hs:sI l m.roads.length with
 | false=>
   rw[hs]at ri
   obtain⟨places,roads⟩:=m
   simp only at*
   simp (disch:=omega) only[go_sem,K.fm,↓reduceIte,pv,ri,List.map_nil,Nat.reduceAdd,Nat.reduceSub]
   rfl
 | true=>
   rw[hs]at ri
   have sp:=fun j hj=>uD (j:=j) hs hj
   clear hs
   obtain⟨places,roads⟩:=m
   simp only at*
   have loop:∀z0 z1 z2 z4 z6:D,exS aN K.rY ⟨[z0,z1,z2,.bp 1 0,z4,.bp 2 0,z6,.t (tL l),I l.length,I 0],[.box [.t (.sl (places.map Place.e)),.t (.sl (roads.map Road.e))],.box [.nil,.nil],.box [.t (.sl (places.map Place.e)),.ref 3 0 roads.length],.arr 10 false 0 ((roads.map Road.e).map .t)]⟩=
    some (.exit 1,⟨[.und,.und,.und,.bp 1 0,.und,.bp 2 0,.und,.t (tL l),I l.length,I l.length],[.box [.t (.sl (places.map Place.e)),.t (.sl (roads.map Road.e))],.box [.nil,.nil],.box [.t (.sl (places.map Place.e)),.ref 3 0 roads.length],.arr 10 false 0 (((zT roads l l.length).map Road.e).map .t)]⟩):=by
    intro z0 z1 z2 z4 z6
    refine b5 (fun k=>⟨[.und,.und,.und,.bp 1 0,.und,.bp 2 0,.und,.t (tL l),I l.length,I k],[.box [.t (.sl (places.map Place.e)),.t (.sl (roads.map Road.e))],.box [.nil,.nil],.box [.t (.sl (places.map Place.e)),.ref 3 0 roads.length],.arr 10 false 0 (((zT roads l k).map Road.e).map .t)]⟩) l.length rfl ?_ ?_ (by simp)
    · intro k hk
      obtain⟨s1,s2⟩:=sp k hk
      have bl:=kX roads l k
      simp only[zT]at*
      generalize hy:nth l k=y at*
      obtain⟨i,rfl⟩:=Int.eq_ofNat_of_zero_le s1
      simp only[Int.toNat_natCast]at*
      generalize hR:zT roads l k=R at*
      have g:((R.map Road.e).map D.t)[i]?=some (.t (nth R i).e):=xc _ _ (by omega)
      have hset:((R.set i (wE (nth R i))).map Road.e).map D.t=((R.map Road.e).map D.t).set i (.t (wE (nth R i)).e):=by simp
      rw[hset]
      generalize nth R i=x at*
      obtain⟨frm,to,len,ar,walk,closed,rl,rh,ll,lh⟩:=x
      simp only[wE]at*
      simp (disch:=omega) only[go_sem,K.mQ,↓reduceIte,hy,g,F6,Nat.reduceAdd,Nat.reduceSub]
    · have bl:=kX roads l l.length
      simp (disch:=omega) only[go_sem,K.mQ,↓reduceIte,Nat.reduceAdd,Nat.reduceSub]
   have bl:=kX roads l l.length
   simp only[dn]
   generalize zT roads l l.length=R at*
   simp only[Bool.true_eq_false,if_false]
   simp (disch:=omega) only[go_sem,K.fm,↓reduceIte,pv,ri,c1,c2,loop,Nat.reduceAdd,Nat.reduceSub]
def asN(frm ps:List Int):Nat→List Int
 | 0=>gH frm.length
 | k+1=>(asN frm ps k).set (nth ps k).toNat (nth frm (nth ps k).toNat)
theorem yC(frm ps:List Int):∀k,(asN frm ps k).length=frm.length
 | 0=>iQ _
 | k+1=>by simp only[asN,List.length_set,yC frm ps k]
theorem uE(l:List Int)(t:Int):∀p,p≤l.length→∀j,j<l.length→nth (pY l t p) j=if j<p∧t<nth l j then never else nth l j
 | 0,_,j,_=>by simp[pY]
 | p+1,hp,j,hj=>by
   have ih:=uE l t p (by omega)
   have ln:=kr l t p
   have e:=ih p (by omega)
   rw[if_neg (by omega)]at e
   unfold pY
   rw[e]
   by_cases c:t<nth l p
   · rw[if_pos c,ni _ _ (by omega),ih j hj]
     by_cases h:j=p
     · subst h;rw[if_pos rfl,if_pos ⟨by omega,c⟩]
     · rw[if_neg h]
       by_cases h2:j<p∧t<nth l j
       · rw[if_pos h2,if_pos ⟨by omega,h2.2⟩]
       · rw[if_neg h2,if_neg fun x=>h2 ⟨by omega,x.2⟩]
   · rw[if_neg c,ih j hj]
     by_cases h2:j<p∧t<nth l j
     · rw[if_pos h2,if_pos ⟨by omega,h2.2⟩]
     · rw[if_neg h2,if_neg fun x=>h2 ⟨by
        rcases Nat.lt_or_ge j p with a | a
        · exact a
        · have:j=p:=by omega
          subst this;exact(c x.2).elim,x.2⟩]
theorem Kr(frm ps:List Int)(hp:∀x∈ps,∃q:Nat,x=q∧q<frm.length):∀k,k≤ps.length→∀j,j<frm.length→nth (asN frm ps k) j=if(j:Int)∈ps.take k then nth frm j else never
 | 0,_,j,hj=>by
   simp only[asN,List.take_zero,List.not_mem_nil,if_false]
   exact zC _ _ hj
 | k+1,hk,j,hj=>by
   have ih:=Kr frm ps hp k (by omega) j hj
   obtain⟨q,e,hq⟩:=hp _ (aa (l:=ps) (j:=k) (by omega))
   unfold asN
   rw[iP (by omega),e,Int.toNat_natCast,ni _ _ (by rw[yC];exact hq),ih]
   simp only[List.mem_append,List.mem_singleton]
   by_cases h:j=q
   · subst h;simp
   · rw[if_neg h]
     have:¬(j:Int)=q:=by omega
     simp[this]
theorem MP(w:Wh)(t:Int):asN w.frm (jS w t) (jS w t).length=pY w.frm t w.frm.length:=by
 have pp:∀x∈jS w t,∃q:Nat,x=q∧q<w.frm.length:=fun x hx=>by
  obtain⟨q,e,h, -⟩:=pF hx
  exact⟨q,e,h⟩
 refine rv (by rw[yC,kr]) fun j hj=>?_
 rw[yC]at hj
 rw[Kr _ _ pp _ (Nat.le_refl _) j hj,uE _ _ _ (Nat.le_refl _) j hj,List.take_length]
 have e:((j:Int)∈jS w t)↔nth w.frm j≤t:=by
  unfold jS
  rw[rZ]
  simp[hj]
 by_cases c:nth w.frm j≤t
 · rw[if_pos (e.2 c),if_neg (by omega)]
 · rw[if_neg (fun h=>c (e.1 h)),if_pos ⟨hj,by omega⟩]
theorem VD(w:Wh)(t:Int)(k:Nat)(hk:k<(jS w t).length):∃q:Nat,nth (jS w t) k=q∧q<w.frm.length:=by
 obtain⟨q,e,h, -⟩:=pF (aa hk)
 exact⟨q,e,h⟩
theorem MQ{m:aT}(h:m.ok)(w:Wh)(hw:w.frm.length=m.places.length)(h1:1≤m.places.length)(t:Int):
 aN 0 N.je [.t m.e,.t w.e,I t] []=some (.tup [.t (wm m ⟨w.time,pY w.frm t w.frm.length⟩ t).1.e,I (wm m ⟨w.time,pY w.frm t w.frm.length⟩ t).2],[]):=by
 refine ax K.sT rfl ?_
 have np:=h.np
 have rp:aN 1 N.bc [.t (.sl [.int .i64 1099511627776]),I w.frm.length] []=_:=Jp 1099511627776 w.frm.length (by omega) (by omega)
 rw[show List.replicate w.frm.length (I 1099511627776)=(((gH w.frm.length).map (T.int .i64)).map .t)by simp[gH]]at rp
 have po:=Kb w t (by omega)
 have pl:(jS w t).length≤w.frm.length:=gR _ _
 have ra:=JB h ⟨w.time,pY w.frm t w.frm.length⟩ t (by simp only[kr];omega)
 have sl:=VD w t
 have al:=yC w.frm (jS w t)
 rw[← MP]at ra ⊢
 have z:asN w.frm (jS w t) 0=gH w.frm.length:=rfl
 have s:∀k,asN w.frm (jS w t) (k+1)=(asN w.frm (jS w t) k).set (nth (jS w t) k).toNat (nth w.frm (nth (jS w t) k).toNat):=fun k=>rfl
 generalize asN w.frm (jS w t)=A at*
 generalize jS w t=ps at*
 generalize wm m ⟨w.time,A ps.length⟩ t=R at*
 obtain⟨⟨rt,rf⟩,rc⟩:=R
 obtain⟨time,frm⟩:=w
 simp only at*
 have lp:∀z0 z1 z6 z8:D,exS aN K.wy ⟨[z0,z1,I t,.bp 0 0,.bp 1 0,.bp 2 0,z6,.ref 3 0 frm.length,z8,.t (tL ps),I ps.length,I 0],[.box (af m),.box [I time,.t (tL frm)],.box [I 0,.nil],Mp (A 0)]⟩=
  some (.exit 0,⟨[.und,.und,I t,.bp 0 0,.bp 1 0,.bp 2 0,.und,.ref 3 0 frm.length,.und,.t (tL ps),I ps.length,I ps.length],[.box (af m),.box [I time,.t (tL frm)],.box [I 0,.nil],Mp (A ps.length)]⟩):=by
  intro z0 z1 z6 z8
  refine b5 (fun j=>⟨[.und,.und,I t,.bp 0 0,.bp 1 0,.bp 2 0,.und,.ref 3 0 frm.length,.und,.t (tL ps),I ps.length,I j],[.box (af m),.box [I time,.t (tL frm)],.box [I 0,.nil],Mp (A j)]⟩) ps.length rfl ?_ ?_ (by simp)
  · intro j hj
    obtain⟨q,e,hq⟩:=sl j hj
    have a1:=al j
    rw[s,e,Int.toNat_natCast]
    generalize A j=a at*
    obtain⟨places,roads⟩:=m
    simp only[af]at*
    rw[← a1]
    simp (disch:=omega) only[go_sem,K.pM,↓reduceIte,e,a1,List.length_set,Nat.reduceAdd,Nat.reduceSub]
  · have a1:=al ps.length
    obtain⟨places,roads⟩:=m
    simp only[af]at*
    rw[← a1]
    simp (disch:=omega) only[go_sem,K.pM,↓reduceIte,Nat.reduceAdd,Nat.reduceSub]
 simp only[z]at lp
 have a1:=al ps.length
 have nl:=iQ frm.length
 generalize A ps.length=a at*
 generalize gH frm.length=ne at*
 obtain⟨places,roads⟩:=m
 simp only[af,Mp]at*
 simp (disch:=omega) only[go_sem,K.je,↓reduceIte,rp,po,lp,ra,Nat.reduceAdd,Nat.reduceSub]
theorem Ks{m:aT}(hm:m.ok){w:Wh}(hl:w.frm.length=m.places.length)(ht:inT w.time)(hp:∀x∈w.frm,plT x){t:Int}(h1:w.time≤t)(h2:t≤2147483648):
 wm m ⟨w.time,pY w.frm t w.frm.length⟩ t=(vq m w t,0)∧cL m (vq m w t)=true:=by
 have ps:∀x∈pY w.frm t w.frm.length,plT x:=fun x hx=>by
  obtain⟨j,hj⟩:=List.mem_iff_getElem?.1 hx
  have jl:=(List.getElem?_eq_some_iff.1 hj).1
  rw[kr]at jl
  rw[← bB hj,uE _ _ _ (Nat.le_refl _) _ jl]
  split
  · exact .inl rfl
  · exact hp _ (aa jl)
 have it:inT t:=by unfold inT at *;omega
 refine⟨?_,pD hm (by rw[kr,hl]) ps it.1 (Int.le_refl _) it⟩
 unfold wm
 have pl:mJ ⟨w.time,pY w.frm t w.frm.length⟩ m.places.length=true:=by
  simp only[mJ,Bool.and_eq_true,decide_eq_true_eq,List.all_eq_true,List.mem_range,kr]
  exact⟨⟨by omega,ht⟩,fun j hj=>ps _ (aa (by rw[kr];exact hj))⟩
 rw[pl]
 simp only[Bool.true_eq_false,if_false]
 rw[if_neg (by omega)]
 rfl
abbrev asV(ws out:List World)(i:Int)(k:D)(w n j:D):List D:=[.und,.und,.und,.und,.und,.bp 1 0,.bp 2 0,.bp 3 0,.und,.bp 4 0,.und,.und,.ref 5 0 out.length,.und,k,.und,.und,.und,.und,.t (.sl (ws.map World.e)),I ws.length,I i,w,n,j]
abbrev asH(m bm:aT)(ws out:List World)(t:Int):aj:=[.box (af m),.box [.t (.sl (ws.map World.e))],.box [I t],.box [.nil],.box (af bm),.arr 2 false 0 ((out.map World.e).map .t)]
abbrev asT(x0 x1:T)(tags:List Int)(q:List Wh):aj:=[.box [.t x0,.t x1],.arr 1 false 0 ((tags.map (T.int .i64)).map .t),.arr 2 false 0 ((q.map Wh.e).map .t),.box [.ref 7 0 tags.length,.ref 8 0 q.length]]
theorem ZV{bm:aT}(h:bm.ok)(h1:1≤bm.places.length)(m:aT)(ws out:List World)(x0 x1:T)(tags:List Int)(whr:List Wh)(hl:whr.length≤1000000)(t i:Int)(ht:t≤2147483648)
 (hz:∀w∈whr,w.frm.length=bm.places.length∧inT w.time∧(∀x∈w.frm,plT x)∧w.time≤t):∀z0 z1 z2 z3 z4 z8 z10 z11 z13 z15 z16 z17 z18:D,
 exS aN K.wq ⟨[z0,z1,z2,z3,z4,.bp 1 0,.bp 2 0,.bp 3 0,z8,.bp 4 0,z10,z11,.ref 5 0 out.length,z13,.bp 9 0,z15,z16,z17,z18,.t (.sl (ws.map World.e)),I ws.length,I i,.t (.sl (whr.map Wh.e)),I whr.length,I 0],asH m bm ws out t++asT x0 x1 tags whr⟩=
 some (.exit 2,⟨asV ws out i (.bp 9 0) (.t (.sl (whr.map Wh.e))) (I whr.length) (I whr.length),asH m bm ws out t++asT x0 x1 tags (lW bm t whr whr.length)⟩):=by
 intro z0 z1 z2 z3 z4 z8 z10 z11 z13 z15 z16 z17 z18
 have ln:=kS bm t whr
 refine b5 (fun j=>⟨asV ws out i (.bp 9 0) (.t (.sl (whr.map Wh.e))) (I whr.length) (I j),asH m bm ws out t++asT x0 x1 tags (lW bm t whr j)⟩) whr.length rfl ?_ ?_ (by simp)
 · intro j hj
   obtain⟨a1,a2,a3,a4⟩:=hz _ (aa hj)
   have g:=MQ h (nth whr j) a1 h1 t
   rw[(Ks h a1 a2 a3 a4 ht).1]at g
   have ex:(whr.map Wh.e)[j]?=some (nth whr j).e:=dz _ hj
   have l1:=ln j
   have e:lW bm t whr (j+1)=(lW bm t whr j).set j (vq bm (nth whr j) t):=by
    have n:=rG bm t whr j j (by omega)
    rw[if_neg (by omega)]at n
    first | rfl | rw[lW,n]
   rw[e]
   clear e hz ln
   generalize lW bm t whr j=q at*
   generalize vq bm (nth whr j) t=r at*
   obtain⟨t1,f1⟩:=r
   generalize nth whr j=x at*
   obtain⟨tx,fx⟩:=x
   obtain⟨places,roads⟩:=m
   obtain⟨bp,br⟩:=bm
   simp only[af,asV,asH,asT,List.cons_append,List.nil_append]at*
   simp (disch:=omega) only[go_sem,K.pL,↓reduceIte,g,ex,List.length_set,Nat.reduceAdd,Nat.reduceSub]
 · have l1:=ln whr.length
   generalize lW bm t whr whr.length=q at*
   obtain⟨places,roads⟩:=m
   obtain⟨bp,br⟩:=bm
   simp only[af,asV,asH,asT,List.cons_append,List.nil_append]at*
   simp (disch:=omega) only[go_sem,K.pL,↓reduceIte,Nat.reduceAdd,Nat.reduceSub]
def jV(bm:aT)(t:Int)(x:World):World:=Ho bm t x x.whr.length
theorem VE{bm:aT}(h:bm.ok)(h1:1≤bm.places.length)(m:aT)(ws:List World)(hw:ws.length≤1000000)(hs:∀x∈ws,x.sz)(t:Int)(ht:t≤2147483648)
 (hz:∀x∈ws,∀w∈x.whr,w.frm.length=bm.places.length∧inT w.time∧(∀y∈w.frm,plT y)∧w.time≤t):∀z0 z1 z2 z3 z4 z8 z10 z11 z13 z14 z15 z16 z17 z18 z22 z23 z24:D,
 exS aN K.wu ⟨[z0,z1,z2,z3,z4,.bp 1 0,.bp 2 0,.bp 3 0,z8,.bp 4 0,z10,z11,.ref 5 0 0,z13,z14,z15,z16,z17,z18,.t (.sl (ws.map World.e)),I ws.length,I 0,z22,z23,z24],asH m bm ws [] t⟩=
 some (.exit 0,⟨asV ws (ws.map (jV bm t)) ws.length .und .und .und .und,asH m bm ws (ws.map (jV bm t)) t⟩):=by
 intro z0 z1 z2 z3 z4 z8 z10 z11 z13 z14 z15 z16 z17 z18 z22 z23 z24
 have key:=b5 (gc:=true) (dead:=[0,1,2,3,4,8,10,11,13,14,15,16,17,18,22,23,24]) (c:=K.me) (vs:=[z0,z1,z2,z3,z4,.bp 1 0,.bp 2 0,.bp 3 0,z8,.bp 4 0,z10,z11,.ref 5 0 0,z13,z14,z15,z16,z17,z18,.t (.sl (ws.map World.e)),I ws.length,I 0,z22,z23,z24]) (H:=asH m bm ws [] t)
  (fun j=>⟨asV ws ((ws.take j).map (jV bm t)) j .und .und .und .und,asH m bm ws ((ws.take j).map (jV bm t)) t⟩) ws.length (e:= .exit 0) (st:=⟨asV ws (ws.map (jV bm t)) ws.length .und .und .und .und,asH m bm ws (ws.map (jV bm t)) t⟩) (by simp only[jx,List.set_cons_succ,List.set_cons_zero,List.take_zero,List.map_nil,List.length_nil];rfl)
  (fun j hj=>by
   obtain⟨z1,z2,z3⟩:=hs _ (aa hj)
   have cw:=FX (nth ws j) ⟨z1,z2,z3⟩
   have inn:=ZV h h1 m ws ((ws.take j).map (jV bm t)) (tL (nth ws j).tags) (.sl ((nth ws j).whr.map Wh.e)) (nth ws j).tags (nth ws j).whr z2 t j ht (hz _ (aa hj)) .und .und .und .und .und .und .und .und (.bp 6 0) .und .und .und .und
   have ex:(ws.map World.e)[j]?=some (nth ws j).e:=dz _ hj
   have tk:(ws.take (j+1)).map (jV bm t)=(ws.take j).map (jV bm t)++[jV bm t (nth ws j)]:=by rw[iP hj,List.map_append];rfl
   have ol:((ws.take j).map (jV bm t)).length≤1000000:=by simp;omega
   have gl:=kS bm t (nth ws j).whr (nth ws j).whr.length
   rw[tk]
   clear tk hz hs
   unfold jV Ho at*
   generalize (ws.take j).map (fun x:World=>(⟨x.tags,lW bm t x.whr x.whr.length⟩:World))=out at*
   generalize lW bm t (nth ws j).whr (nth ws j).whr.length=q at*
   generalize nth ws j=x at*
   obtain⟨tags,whr⟩:=x
   obtain⟨places,roads⟩:=m
   obtain⟨bp,br⟩:=bm
   simp only[af,asV,asH,asT,List.cons_append,List.nil_append]at*
   simp (disch:=omega) only[go_sem,K.me,↓reduceIte,ex,cw,inn,gl,Nat.reduceAdd,Nat.reduceSub]
   )
  (by
   rw[List.take_length]
   generalize ws.map (jV bm t)=out
   obtain⟨places,roads⟩:=m
   obtain⟨bp,br⟩:=bm
   simp only[af,asV,asH]
   simp (disch:=omega) only[go_sem,K.me,↓reduceIte,Nat.reduceAdd,Nat.reduceSub]
   ) (by simp)
 exact key
theorem Ht(w:Wh)(t:Int):aN 0 N.cB [.t w.e,.bp 0 0] [.box [I t]]=some (B (decide (t<w.time)),[.box [I t]]):=by
 refine ax K.mR rfl ?_
 obtain⟨tm,frm⟩:=w
 by_cases c:t<tm
 · simp (disch:=omega) only[go_sem,K.cB,↓reduceIte,c,decide_true,Nat.reduceAdd,Nat.reduceSub]
 · simp (disch:=omega) only[go_sem,K.cB,↓reduceIte,c,decide_false,Nat.reduceAdd,Nat.reduceSub]
def ky(t:Int)(x:World):Bool:=x.whr.any fun w=>decide (t<w.time)
theorem Kt(x:World)(hx:x.sz)(t:Int):aN 0 N.eG [.t x.e,.bp 0 0] [.box [I t]]=some (B (ky t x),[.box [I t]]):=by
 refine ax K.pO rfl ?_
 obtain⟨h1,h2,h3⟩:=hx
 have cf:=p8 x.whr (by omega) N.cB [[tI t]] (fun w=>decide (t<w.time)) (fun w hw=>Ht w t)
 have cf:aN 0 N.ae [.t (.sl (x.whr.map Wh.e)),.fn N.cB [.bp 0 0]] [.box [I t]]=some (B (ky t x),[.box [I t]]):=cf
 generalize ky t x=b at*
 obtain⟨tags,whr⟩:=x
 simp (disch:=omega) only[go_sem,K.eG,↓reduceIte,cf,Nat.reduceAdd,Nat.reduceSub]
theorem MR(b:Bel)(hb:b.sz)(t:Int):aN 0 N.av [.t (.sl (b.worlds.map World.e)),.fn N.eG [.bp 0 0]] [.box [I t]]=some (B (b.worlds.any (ky t)),[.box [I t]]):=
 wL b.worlds (by have:=hb.1;omega) N.eG [[tI t]] (ky t) (fun x hx=>Kt x (hb.2 x hx) t)
theorem zW{t:Int}(ht:t≤2147483648)(ws:List World):(List.range ws.length).any (Ez t ws)=ws.any (ky t):=by
 have e:∀i,Ez t ws i=ky t (nth ws i):=fun i=>by
  unfold Ez ky Rz
  rw[← ye (nth ws i).whr (fun w=>decide (t<w.time))]
  congr 1
  funext k
  rw[Bool.eq_iff_iff,decide_eq_true_eq,decide_eq_true_eq]
  omega
 rw[show Ez t ws=fun i=>ky t (nth ws i)from funext e]
 exact ye ws (ky t)
theorem zX(bm:aT)(t:Int)(ws:List World):wF bm t ws ws.length=ws.map (jV bm t):=by
 refine rv (by rw[rH,List.length_map]) fun j hj=>?_
 rw[rH]at hj
 rw[zV _ _ _ _ _ (Nat.le_refl _),if_pos hj,bB (dz (jV bm t) hj)]
 rfl
theorem MS{m bm:aT}(hb:bm.ok)(hp:bm.places=m.places){first:List Int}{t:Int}(ht:t≤2147483648){x:World}(h:WV m first x)(he:ky t x=false):WV bm first (jV bm t x):=by
 refine⟨h.pm,by unfold jV Ho;rw[kS];exact h.wl,fun w hw=>?_⟩
 obtain⟨j,hj⟩:=List.mem_iff_getElem?.1 hw
 have jl:=(List.getElem?_eq_some_iff.1 hj).1
 unfold jV Ho at jl hj
 rw[kS]at jl
 simp only at jl hj
 rw[← bB hj,rG _ _ _ _ _ (Nat.le_refl _),if_pos jl]
 obtain⟨a,b,c, -⟩:=bZ (h.wv _ (aa jl))
 have:¬t<(nth x.whr j).time:=fun c=>by
  have:=List.any_eq_false.1 he _ (aa jl)
  simp only[decide_eq_true_eq]at this
  omega
 exact(Ks hb (by rw[hp,a]) b c (by omega) ht).2
theorem F7{m bm:aT}(hb:bm.ok)(hp:bm.places=m.places){first:List Int}{t:Int}(ht:t≤2147483648){ws:List World}(h:BV m first ws)(he:ws.any (ky t)=false):BV bm first (ws.map (jV bm t)):=by
 refine⟨h.pr,h.f1,h.f2,fun x hx=>?_,?_⟩
 · obtain⟨y,hy,rfl⟩:=List.mem_map.1 hx
   exact MS hb hp ht (h.wv y hy) (by simpa using List.any_eq_false.1 he y hy)
 · rw[List.pairwise_map]
   exact h.up
theorem MT{m:aT}(h:m.ok)(h1:1≤m.places.length)(b:Bel)(hs:b.sz)(h20:b.worlds.length<20)(bars:List Int)(hl:bars.length≤1000000)(t:Int):
 aN 0 N.fk [.t m.e,.t b.e,.t (tL bars),I t] []=some (.tup [.t (yB m b bars t).1.e,I (yB m b bars t).2],[]):=by
 refine ax K.sR rfl ?_
 have va:=Hn h b hs
 have ba:=Hr h bars hl
 have ea:=MR b hs t
 unfold yB
 cases hv:qf m b with
 | false=>
   rw[hv]at va
   obtain⟨ws⟩:=b
   obtain⟨places,roads⟩:=m
   simp (disch:=omega) only[go_sem,K.fk,↓reduceIte,va,Nat.reduceAdd,Nat.reduceSub]
 | true=>
   rw[hv]at va
   simp only[Bool.true_eq_false,if_false]
   by_cases cs:sI bars m.roads.length=true
   · have e:iH m bars=(dn m bars,0):=by unfold iH;rw[cs];simp
     have bo:=zU h cs
     have bp:(dn m bars).places=m.places:=rfl
     rw[e]at ba ⊢
     simp only[ne_eq,not_true_eq_false,if_false]
     by_cases ct:t≤2147483648
     · rw[zW ct]
       cases he:b.worlds.any (ky t)with
       | true=>
         rw[he]at ea
         simp only[if_true]
         generalize dn m bars=bm at*
         obtain⟨ws⟩:=b
         obtain⟨places,roads⟩:=m
         obtain⟨bpl,brd⟩:=bm
         simp (disch:=omega) only[go_sem,K.fk,↓reduceIte,va,ba,ea,Nat.reduceAdd,Nat.reduceSub]
       | false=>
         rw[he]at ea
         simp only[Bool.false_eq_true,if_false]
         obtain⟨ws⟩:=b
         simp only at*
         have bv:=wC hv
         obtain⟨w1,w2, -⟩:=fN hv
         simp only at w1
         have bv2:=F7 bo bp ct bv he
         have ti:=MM bo bv2.pr bv2.f1 bv2.f2 _ bv2.wv (by rw[List.length_map];omega) (by rw[List.length_map];omega)
         have lp:=VE bo (by rw[bp];exact h1) m ws (by have:=hs.1;simp only at this;omega) hs.2 t ct (fun x hx w hw=>by
          obtain⟨a,b,c, -⟩:=bZ ((bv.wv x hx).wv w hw)
          have:=List.any_eq_false.1 (by simpa using List.any_eq_false.1 he x hx:ky t x=false) w hw
          simp only[decide_eq_true_eq]at this
          exact⟨by rw[bp,a],b,c,by omega⟩)
         rw[zX]
         have ml:(ws.map (jV (dn m bars) t)).length=ws.length:=List.length_map ..
         clear bv2 bv
         generalize ws.map (jV (dn m bars) t)=out at*
         generalize m7 out=R at*
         generalize dn m bars=bm at*
         obtain⟨places,roads⟩:=m
         obtain⟨bpl,brd⟩:=bm
         simp only[af,asV,asH,List.map_nil]at*
         simp (disch:=omega) only[go_sem,K.fk,↓reduceIte,va,ba,ea,lp,ti,Nat.reduceAdd,Nat.reduceSub]
     · have lt:(List.range b.worlds.length).any (Ez t b.worlds)=true:=by
        obtain⟨w1,w2,f1,f2,w5⟩:=fN hv
        have q:=gE (w5 0 (by omega))
        rw[List.any_eq_true]
        refine⟨0,List.mem_range.2 (by omega),?_⟩
        unfold Ez
        rw[List.any_eq_true]
        exact⟨0,List.mem_range.2 (by omega),by unfold Rz;rw[decide_eq_true_eq];omega⟩
       rw[lt]
       simp only[if_true]
       generalize dn m bars=bm at*
       clear lt
       obtain⟨ws⟩:=b
       obtain⟨places,roads⟩:=m
       obtain⟨bpl,brd⟩:=bm
       simp (disch:=omega) only[go_sem,K.fk,↓reduceIte,va,ba,Nat.reduceAdd,Nat.reduceSub]
   · have e:iH m bars=(⟨[],[]⟩,4):=by unfold iH;rw[if_pos (by simpa using cs)]
     rw[e]at ba ⊢
     simp only[ne_eq,Int.reduceEq,not_false_eq_true,if_true,List.map_nil]at ba ⊢
     obtain⟨ws⟩:=b
     obtain⟨places,roads⟩:=m
     simp (disch:=omega) only[go_sem,K.fk,↓reduceIte,va,ba,Nat.reduceAdd,Nat.reduceSub]
end Go.Ev
namespace Go.Ev
open Go
variable [Lib] [cn] [bS] [iE] [iv] [lU] [gV] [gW] [kt] [iJ] [hX] [fT]
def AW(P:Wh→Prop)(ws:List World):Prop:=∀x∈ws,∀w∈x.whr,P w
structure Kept(m:aT)(T:Int)(P:Wh→Prop):Prop where
 see:∀w l a b,P w→b≤T→P (yS m w l a b).1
 abs:∀w l a b bl,P w→b≤T→P (zy m w l a b bl).1
 raise:∀w t,P w→t≤T→P (lT w t).1
 join:∀a b,P a→P b→a.frm.length=b.frm.length→P (iR a b).1
theorem AW.set{P:Wh→Prop}{x:World}(h:∀w∈x.whr,P w)(tag:Int){w:Wh}(hw:(bL x.tags tag).toNat<x.whr.length→P w):∀y∈(Ek tag x w).whr,P y:=by
 intro y hy
 simp only[Ek]at hy
 by_cases c:(bL x.tags tag).toNat<x.whr.length
 · rcases List.mem_or_eq_of_mem_set hy with a | rfl
   · exact h y a
   · exact hw c
 · rw[List.set_eq_of_length_le (by omega)]at hy;exact h y hy
theorem AY{m:aT}{T:Int}{P:Wh→Prop}(k:Kept m T P){ws:List World}(h:AW P ws)(tag:Int)(l:List Int)(a b:Int)(hb:b≤T):∀j,j≤ws.length→AW P (mW m tag l a b ws j)
 | 0,_,x,hx=>by simp[mW]at hx
 | j+1,hj,x,hx=>by
   simp only[mW,CB]at hx
   have hn:=h _ (aa (l:=ws) (j:=j) (by omega))
   split at hx
   · exact AY k h tag l a b hb j (by omega) x hx
   · rcases List.mem_append.1 hx with hx | hx
     · exact AY k h tag l a b hb j (by omega) x hx
     · rw[List.mem_singleton.1 hx]
       split
       · exact AW.set hn tag fun c=>k.see _ _ _ _ (hn _ (aa c)) hb
       · exact hn
theorem F8{m:aT}{T:Int}{P:Wh→Prop}(k:Kept m T P){ws:List World}(h:AW P ws)(tag:Int)(l:List Int)(a b bl:Int)(hb:b≤T):∀j,j≤ws.length→AW P (oL m tag l a b bl ws j)
 | 0,_,x,hx=>by simp[oL]at hx
 | j+1,hj,x,hx=>by
   simp only[oL,El]at hx
   have hn:=h _ (aa (l:=ws) (j:=j) (by omega))
   rcases List.mem_append.1 hx with hx | hx
   · exact F8 k h tag l a b bl hb j (by omega) x hx
   · rw[List.mem_singleton.1 hx]
     split
     · exact AW.set hn tag fun c=>k.abs _ _ _ _ _ (hn _ (aa c)) hb
     · exact hn
theorem F9{m:aT}{T:Int}{P:Wh→Prop}(k:Kept m T P){n:Nat}{a b:List Wh}(ha:∀w∈a,P w∧w.frm.length=n)(hb:∀w∈b,P w∧w.frm.length=n):∀p,p≤a.length→p≤b.length→∀w∈iU a b p,P w
 | 0,_,_,w,hw=>(ha w hw).1
 | p+1,h1,h2,w,hw=>by
   simp only[iU]at hw
   rcases List.mem_or_eq_of_mem_set hw with hw | rfl
   · exact F9 k ha hb p (by omega) (by omega) w hw
   · have x:=ha _ (aa (l:=a) (j:=p) (by omega))
     have y:=hb _ (aa (l:=b) (j:=p) (by omega))
     exact k.join _ _ x.1 y.1 (by rw[x.2,y.2])
theorem MU{m:aT}{T:Int}{P:Wh→Prop}(k:Kept m T P){first:List Int}{out:List World}{x:World}(ho:AW P out)(hx:∀w∈x.whr,P w)(wo:∀y∈out,WV m first y)(wx:WV m first x):AW P (gK out x):=by
 intro y hy
 unfold gK at hy
 split at hy
 · rename_i h
   rcases List.mem_or_eq_of_mem_set hy with hy | rfl
   · exact ho y hy
   · have wk:=wo _ (aa h.1)
     exact F9 k (n:=m.places.length) (fun w hw=>⟨ho _ (aa h.1) w hw,(bZ (wk.wv w hw)).1⟩) (fun w hw=>⟨hx w hw,(bZ (wx.wv w hw)).1⟩) _ (Nat.min_le_left _ _) (Nat.min_le_right _ _)
 · rcases List.mem_append.1 hy with hy | hy
   · rcases List.mem_append.1 hy with hy | hy
     · exact ho y (List.mem_of_mem_take hy)
     · rw[List.mem_singleton.1 hy];exact hx
   · exact ho y (List.mem_of_mem_drop hy)
theorem Ga{m:aT}(hm:m.ok){T:Int}{P:Wh→Prop}(k:Kept m T P){first:List Int}(pr:eC first=true)(f1:1≤first.length)(f2:first.length≤12){l:List World}(hl:AW P l)(wl:∀x∈l,WV m first x):∀j,j≤l.length→AW P (oM l j)
 | 0,_,y,hy=>by simp[oM]at hy
 | j+1,h,y,hy=>MU k (Ga hm k pr f1 f2 hl wl j (by omega)) (hl _ (aa (by omega))) (AU hm pr f1 f2 wl j (by omega)).wv (wl _ (aa (by omega))) y hy
theorem MV{m:aT}{T:Int}{P:Wh→Prop}(k:Kept m T P){i j:Nat}{t:Int}(ht:t≤T){x:World}(h:∀w∈x.whr,P w):∀w∈(sW i j t x).whr,P w:=by
 intro w hw
 simp only[sW]at hw
 have one:∀ {l:List Wh},(∀w∈l,P w)→∀i,∀w∈l.set i (lT (nth x.whr i) t).1,i<x.whr.length∨l.length=x.whr.length→P w:=by
  intro l hl i w hw hlen
  by_cases c:i<x.whr.length
  · rcases List.mem_or_eq_of_mem_set hw with a | rfl
    · exact hl w a
    · exact k.raise _ _ (h _ (aa c)) ht
  · rcases hlen with a | a
    · exact(c a).elim
    · rw[List.set_eq_of_length_le (by omega)]at hw;exact hl w hw
 by_cases c:j<x.whr.length
 · rcases List.mem_or_eq_of_mem_set hw with a | rfl
   · exact one h i w a (.inr rfl)
   · exact k.raise _ _ (h _ (aa c)) ht
 · rw[List.set_eq_of_length_le (by rw[List.length_set];omega)]at hw
   exact one h i w hw (.inr rfl)
theorem yD{m:aT}{T:Int}{P:Wh→Prop}(k:Kept m T P){ws:List World}(h:AW P ws){i j:Nat}{t:Int}(ht:t≤T):∀q,q≤ws.length→AW P (iu i j t ws q)
 | 0,_=>h
 | q+1,hq=>fun x hx=>by
   simp only[iu,yr]at hx
   split at hx
   · rcases List.mem_append.1 hx with hx | hx
     · exact yD k h ht q (by omega) x hx
     · rw[List.mem_singleton.1 hx];exact MV k ht (h _ (aa (by omega)))
   · exact yD k h ht q (by omega) x hx
theorem Hu{m:aT}(hm:m.ok){T:Int}{P:Wh→Prop}(k:Kept m T P){n:Int}{s:BSt}(hb:qf m s.b=true)(h:AW P s.b.worlds)(ht:s.t+118≤T):AW P (aC.kh m n s).b.worlds:=by
 have a0:=s.d.dD 60
 have a9:=s.d.dE (n:=60) (by omega)
 unfold aC.kh
 simp only
 generalize s.d.next 60=a at*
 obtain⟨a1,d1⟩:=a
 simp only at a0 a9 ⊢
 obtain⟨⟨ws⟩,t,d⟩:=s
 simp only at*
 have bv:=wC hb
 obtain⟨w1,w2,f1,f2, -⟩:=fN hb
 split
 · simp only
   split
   · generalize ((d1.next 3).2.next n).1=i
     generalize (((d1.next 3).2.next n).2.next n).1=j
     unfold mX
     split
     · exact h
     · split
       · exact h
       · rename_i hij
         simp only at hij
         split
         · exact h
         · split
           · exact h
           · exact Ga hm k bv.pr bv.f1 bv.f2 (yD k h (by omega) _ (Nat.le_refl _)) (uB hm bv.wv (by omega) (by omega) _ _ (Nat.le_refl _)) _ (Nat.le_refl _)
   · exact h
 · split
   · simp only
     split
     · have e9:=((((d1.next 3).2.next n).2.lk m.places.length).2).dE (n:=9) (by omega)
       generalize (((d1.next 3).2.next n).2.lk m.places.length)=l at*
       generalize (l.2.next 9).1=e at*
       unfold qT
       split
       · exact h
       · split
         · exact h
         · split
           · exact h
           · exact AY k h _ _ _ _ (by omega) _ (Nat.le_refl _)
     · exact h
   · simp only
     split
     · unfold qU
       split
       · exact h
       · split
         · exact h
         · exact F8 k h _ _ _ _ _ (by omega) _ (Nat.le_refl _)
     · exact h
theorem Ku{m:aT}(hm:m.ok){T:Int}{P:Wh→Prop}(k:Kept m T P){n:Int}{s:BSt}(hb:qf m s.b=true)(h:AW P s.b.worlds):∀(q:Nat),s.t+60*q+118≤T+60→AW P (aC.vn m n s q).b.worlds∧(aC.vn m n s q).t≤s.t+60*q
 | 0,_=>⟨h,by simp[aC.vn]⟩
 | q+1,hq=>by
   obtain⟨h1,h2⟩:=Ku hm k (n:=n) hb h q (by omega)
   have ht:=(CL (m:=m) (n:=n) (s:=aC.vn m n s q)).2
   exact⟨Hu hm k (vo hm hb q) h1 (by omega),by simp only[aC.vn];omega⟩
theorem Kv{m:aT}(hm:m.ok)(h1:1≤m.places.length)(d:aC){P:Wh→Prop}(k:Kept m 500 P)(hs:∀p t,0≤p→p<(m.places.length:Int)→0≤t→t<100→P (dh m p t).1):AW P (d.qV m).1.worlds:=by
 have v0:=zS hm h1 d
 have k9:=((d.lV m).2.next 100).2.dE (n:=5) (by omega)
 have k0:=((d.lV m).2.next 100).2.dD 5
 have kk:d.JW m≤4:=by unfold aC.JW;omega
 have t0:=(d.lV m).2.dD 100
 have t9:=(d.lV m).2.dE (n:=100) (by omega)
 have tl:=kg d.oh
 have sl:(d.lV m).1.length=d.oh:=aC.jR _ _ _
 have a0:AW P (d.HW m).b.worlds:=by
  unfold aC.HW
  rw[AO hm h1]
  intro x hx w hw
  rw[List.mem_singleton.1 hx]at hw
  simp only[gu,List.mem_map,List.mem_range]at hw
  obtain⟨i,hi,rfl⟩:=hw
  have:=qW (d.next 3).2 (n:=m.places.length) (by omega) d.oh _ (aa (l:=(d.lV m).1) (j:=i) (by omega))
  exact hs _ _ this.1 this.2 t0 t9
 exact(Ku hm k (n:=d.oh) v0 a0 (d.JW m) (by show(100:Int)+_+_≤_;omega)).1
theorem Kw(m:aT):Kept m 500 fun w=>w.time≤500 where
 see w l a b h hb:=by
  unfold yS
  split
  · exact h
  · split
    · exact h
    · split
      · exact hb
      · exact h
 abs w l a b bl h hb:=by
  unfold zy
  split
  · exact h
  · split
    · exact h
    · split
      · exact h
      · split
        · exact h
        · exact hb
 raise w t h ht:=by unfold lT;split;exact h;exact ht
 join a b ha hb e:=by
  unfold iR
  rw[if_pos e]
  simp only;omega
theorem EA{m:aT}(hm:m.ok)(h1:1≤m.places.length)(d:aC):AW (fun w=>w.time≤500) (d.qV m).1.worlds:=
 Kv hm h1 d (Kw m) fun p t p0 p1 t0 t1=>by
  rw[(pE hm p0 p1 (t:=t) ⟨t0,by omega⟩).1]
  simp only;omega
def CV:List Int→List (List Int)
 | []=>[[]]
 | a::l=>(CV l).flatMap fun p=>(List.range (p.length+1)).map fun i=>p.take i++a::p.drop i
theorem CW:∀ {l t:List Int},t.Perm l→t∈CV l
 | [],t,h=>by rw[List.perm_nil.1 h];simp[CV]
 | a::l,t,h=>by
   obtain⟨s1,s2,rfl⟩:=List.append_of_mem (h.mem_iff.2 List.mem_cons_self)
   have p:(s1++s2).Perm l:=(List.perm_cons a).1 ((List.perm_middle.symm).trans h)
   simp only[CV,List.mem_flatMap,List.mem_map,List.mem_range]
   exact⟨_,CW p,s1.length,by rw[List.length_append];omega,by simp⟩
theorem Hv{m:aT}{first:List Int}{ws:List World}(h:BV m first ws)(f:first.length≤3):ws.length≤6:=by
 have nd:(ws.map World.tags).Nodup:=by
  rw[List.Nodup,List.pairwise_map]
  exact h.up.imp fun h e=>wD h e
 have sub:(ws.map World.tags) ⊆ CV first:=by
  intro t ht
  obtain⟨x,hx,rfl⟩:=List.mem_map.1 ht
  exact CW (h.wv x hx).pm
 have:=nd.length_le_of_subset sub
 rw[List.length_map]at this
 have f1:=h.f1
 match first,f,f1 with
 | [a],_,_=>exact Nat.le_trans this (by decide:1≤6)
 | [a,b],_,_=>exact Nat.le_trans this (by show 2≤6;decide)
 | [a,b,c],_,_=>exact Nat.le_trans this (by show 6≤6;decide)
theorem MW{d:aC}(hd:d.dU){m:aT}(hm:m.ok)(h1:1≤m.places.length):
 ∃(b:Bel) (e:aC),aN 0 N.bR [.bp 0 0,.t m.e] [d.obj]=some (.t b.e,[e.obj])∧e.dU∧qf m b=true∧b.sz∧b.worlds.length≤6∧(nth b.worlds 0).tags.length≤3∧AW (fun w=>w.time≤500) b.worlds:=by
 have g:=J1 hm h1 hd
 have v:=CR hm h1 d
 have bp:=yx d
 have n:(nth (d.qV m).1.worlds 0).tags.length≤3:=by
  have:=(g.1.ws _ (aa (l:=(d.qV m).1.worlds) (j:=0) (by have:=g.1.w1;omega))).tg
  omega
 refine⟨_,_,J4 hm h1 d hd,g.2,v,g.1.sz hm,?_,n,EA hm h1 d⟩
 have bv:=wC (m:=m) (ws:=(d.qV m).1.worlds) v
 exact Hv bv n
end Go.Ev
namespace Go.Ev
open Go
variable [Lib] [cn] [bS] [iE]
def HX(l:List Wh)(t:Int):Nat→Int
 | 0=>t
 | j+1=>max (HX l t j) (nth l j).time
def yU(ws:List World):Nat→Int
 | 0=>0
 | i+1=>HX (nth ws i).whr (yU ws i) (nth ws i).whr.length
def wN(b:Bel):Int:=yU b.worlds b.worlds.length
theorem RA(b:Bel)(hb:b.sz):aN 0 N.jc [.t b.e] []=some (I (wN b),[]):=by
 refine ax K.sQ rfl ?_
 unfold wN
 obtain⟨ws⟩:=b
 obtain⟨s1,s2⟩:=hb
 simp only at s1 s2 ⊢
 have inner:∀i,i<ws.length→∀(t:Int) (a b:D),exS aN K.we ⟨[a,.bp 0 0,b,I t,I i,I 0],[.box [.t (.sl (ws.map World.e))]]⟩=
  some (.exit 2,⟨[.und,.bp 0 0,.und,I (HX (nth ws i).whr t (nth ws i).whr.length),I i,I (nth ws i).whr.length],[.box [.t (.sl (ws.map World.e))]]⟩):=by
  intro i hi t a b
  have g1:(ws.map World.e)[i]?=some (nth ws i).e:=dz _ hi
  have sz:=(s2 _ (aa hi)).2.1
  refine b5 (fun j=>⟨[.und,.bp 0 0,.und,I (HX (nth ws i).whr t j),I i,I j],[.box [.t (.sl (ws.map World.e))]]⟩) (nth ws i).whr.length rfl ?_ ?_ (by simp)
  · intro j hj
    have g2:((nth ws i).whr.map Wh.e)[j]?=some (nth (nth ws i).whr j).e:=dz _ hj
    simp only[HX]
    generalize HX (nth ws i).whr t j=q at*
    generalize nth (nth ws i).whr j=w at*
    generalize nth ws i=x at*
    obtain⟨tags,whr⟩:=x
    obtain⟨time,frm⟩:=w
    simp only at*
    simp (disch:=omega) only[go_sem,K.pI,↓reduceIte,g1,g2,Nat.reduceAdd,Nat.reduceSub]
  · generalize HX (nth ws i).whr t (nth ws i).whr.length=q at*
    generalize nth ws i=x at*
    obtain⟨tags,whr⟩:=x
    simp only at*
    simp (disch:=omega) only[go_sem,K.pI,↓reduceIte,g1,Nat.reduceAdd,Nat.reduceSub]
 have loop:∀a b c:D,exS aN K.wg ⟨[a,.bp 0 0,b,I 0,I 0,c],[.box [.t (.sl (ws.map World.e))]]⟩=
  some (.exit 0,⟨[.und,.bp 0 0,.und,I (yU ws ws.length),I ws.length,.und],[.box [.t (.sl (ws.map World.e))]]⟩):=by
  intro a b c
  refine b5 (fun i=>⟨[.und,.bp 0 0,.und,I (yU ws i),I i,.und],[.box [.t (.sl (ws.map World.e))]]⟩) ws.length rfl ?_ ?_ (by simp)
  · intro i hi
    have inner:=fun t a b=>inner i hi t a b
    simp (disch:=omega) only[go_sem,K.pJ,↓reduceIte,inner,yU,Nat.reduceAdd,Nat.reduceSub]
  · simp (disch:=omega) only[go_sem,K.pJ,↓reduceIte,Nat.reduceAdd,Nat.reduceSub]
 simp (disch:=omega) only[go_sem,K.jc,↓reduceIte,loop,Nat.reduceAdd,Nat.reduceSub]
end Go.Ev
namespace Go.Ev
open Go
variable [Lib] [cn] [bS] [iE] [iv] [lU] [gV] [gW] [kt] [iJ] [hX] [fT] [qb] [jr] [oK] [wK]
theorem lex_asymm{a b:List Int}(h:lexB a b=true):lexB b a=false:=by
 cases h2:lexB b a with
 | false=>rfl
 | true=>have:=lex_trans h h2;rw[lex_irrefl]at this;cases this
theorem MX{ws:List World}(u:UpW ws):m7 ws=ws:=by
 rw[rF]
 have key:∀j,j≤ws.length→(ws.take j).foldl gK []=ws.take j:=by
  intro j
  induction j with
  | zero=>intro _;simp
  | succ j ih=>
    intro hj
    rw[iP (by omega),List.foldl_append,ih (by omega)]
    simp only[List.foldl_cons,List.foldl_nil]
    have uj:UpW (ws.take j):=List.Pairwise.sublist (List.take_sublist _ _) u
    have ln:(ws.take j).length=j:=by rw[List.length_take];omega
    have lt:0<j→lexB (nth (ws.take j) (j-1)).tags (nth ws j).tags=true:=fun h0=>by
     have:=List.pairwise_iff_getElem.1 u (j-1) j (by omega) (by omega) (by omega)
     rw[bB (List.getElem?_eq_getElem (by omega:j<ws.length)),bB (show(ws.take j)[j-1]?=some ws[j-1]by rw[List.getElem?_take,if_pos (by omega)];exact List.getElem?_eq_getElem (by omega))]
     exact this
    rw[zP uj (fun h0=>by rw[ln]at h0 ⊢;exact lex_asymm (lt h0))]
    unfold pX
    rw[if_neg]
    rintro ⟨h0,e⟩
    rw[ln]at h0 e
    exact wD (lt h0) e
 have:=key ws.length (Nat.le_refl _)
 rwa [List.take_length]at this
theorem Hw{m:aT}{b:Bel}(hb:qf m b=true){bars:List Int}(hs:sI bars m.roads.length=true){t:Int}(ht:t≤2147483648)(he:b.worlds.any (ky t)=false):
 yB m b bars t=(⟨b.worlds.map (jV (dn m bars) t)⟩,0):=by
 have e:iH m bars=(dn m bars,0):=by unfold iH;rw[hs];simp
 unfold yB
 rw[hb,e,zW ht,he,zX]
 simp only[Bool.true_eq_false,if_false,ne_eq,not_true_eq_false,Bool.false_eq_true]
 rw[MX]
 unfold UpW
 rw[List.pairwise_map]
 exact(wC hb).up
theorem Kx(bm:aT)(t:Int)(x:World):(jV bm t x).whr.length=x.whr.length:=kS ..
theorem Ky(l:List Wh)(t:Int):∀j,t≤HX l t j∧∀k,k<j→(nth l k).time≤HX l t j
 | 0=>⟨Int.le_refl _,fun k h=>by omega⟩
 | j+1=>by
   obtain⟨h1,h2⟩:=Ky l t j
   simp only[HX]
   refine⟨by omega,fun k hk=>?_⟩
   by_cases c:k=j
   · subst c;omega
   · have:=h2 k (by omega);omega
theorem Gb(ws:List World):∀i,0≤yU ws i∧∀k,k<i→∀j,j<(nth ws k).whr.length→(nth (nth ws k).whr j).time≤yU ws i
 | 0=>⟨Int.le_refl _,fun k h=>by omega⟩
 | i+1=>by
   obtain⟨h1,h2⟩:=Gb ws i
   obtain⟨g1,g2⟩:=Ky (nth ws i).whr (yU ws i) (nth ws i).whr.length
   simp only[yU]
   refine⟨by omega,fun k hk j hj=>?_⟩
   by_cases c:k=i
   · subst c;exact g2 j hj
   · have:=h2 k (by omega) j hj;omega
theorem Kz(b:Bel):0≤wN b∧∀x∈b.worlds,∀w∈x.whr,w.time≤wN b:=by
 obtain⟨h1,h2⟩:=Gb b.worlds b.worlds.length
 refine⟨h1,fun x hx w hw=>?_⟩
 obtain⟨i,hi,rfl⟩:=List.getElem_of_mem hx
 obtain⟨j,hj,rfl⟩:=List.getElem_of_mem hw
 have e:nth b.worlds i=b.worlds[i]:=bB (List.getElem?_eq_getElem hi)
 have:=h2 i hi j (by rw[e];exact hj)
 rwa [e,bB (List.getElem?_eq_getElem hj)]at this
theorem KA{l:List Wh}{M t:Int}(ht:t≤M)(h:∀w∈l,w.time≤M):∀j,j≤l.length→HX l t j≤M
 | 0,_=>ht
 | j+1,hj=>by
   have h1:=KA ht h j (by omega)
   have h2:=h _ (aa (l:=l) (j:=j) (by omega))
   simp only[HX];omega
theorem Gc{ws:List World}{M:Int}(h0:0≤M)(h:AW (fun w=>w.time≤M) ws):∀i,i≤ws.length→yU ws i≤M
 | 0,_=>h0
 | i+1,hi=>KA (Gc h0 h i (by omega)) (h _ (aa (by omega))) _ (Nat.le_refl _)
theorem RB{b:Bel}(h:AW (fun w=>w.time≤500) b.worlds):wN b≤500:=Gc (by omega) h _ (Nat.le_refl _)
theorem MY{b:Bel}{t:Int}(h:wN b≤t):b.worlds.any (ky t)=false:=by
 rw[List.any_eq_false]
 intro x hx
 unfold ky
 simp only[Bool.not_eq_true,List.any_eq_false,decide_eq_true_eq]
 intro w hw
 have:=(Kz b).2 x hx w hw
 omega
structure SlF(bm:aT)(w:Wh)(t:Int):Prop where
 ln:(vq bm w t).frm.length=bm.places.length
 bd:bnd (vq bm w t).frm
 cl:clW bm t none (vq bm w t).frm
 le:∀j,j<bm.places.length→nth (vq bm w t).frm j≤if t<nth w.frm j then 1099511627776 else nth w.frm j
theorem slF{bm:aT}(hm:bm.ok){w:Wh}(hl:w.frm.length=bm.places.length)(hp:∀x∈w.frm,plT x)(t:Int):SlF bm w t:=by
 have sb:=CT (fun x hx=>kH (hp x hx):bnd w.frm) t w.frm.length
 have sl:=kr w.frm t w.frm.length
 obtain⟨c1,c2⟩:=ue hm (t:=t) (into:=none) (by rw[sl,hl]) sb
 refine⟨c1,c2,ya hm (by rw[sl,hl]) sb,fun j hj=>?_⟩
 have e:=Ci hm (t:=t) (into:=none) (by rw[sl,hl]) sb j
 rw[uE _ _ _ (Nat.le_refl _) _ (by omega)]at e
 have:nth (vq bm w t).frm j=nth (cD bm t none (pY w.frm t w.frm.length)) j:=rfl
 split
 · rename_i c;rw[if_pos ⟨by omega,c⟩]at e;exact e
 · rename_i c;rw[if_neg (fun h=>c h.2)]at e;exact e
theorem Hx{bm:aT}(hm:bm.ok){w:Wh}(hl:w.frm.length=bm.places.length)(hp:∀x∈w.frm,plT x){t:Int}(ht:inT t){p:Nat}(hpl:p<bm.places.length)(h:nth w.frm p≤t)(j:Nat):
 nth (vq bm w t).frm j≤nth (dh bm p t).1.frm j:=by
 have f:=slF hm hl hp t
 have nl:=iQ bm.places.length
 have nb:bnd ((gH bm.places.length).set p t):=sL (fun x hx=>by rw[List.eq_of_mem_replicate hx];omega) (by unfold inT at ht;omega) (by unfold inT at ht;omega)
 rw[(pE hm (p:=p) (by omega) (by omega) ht).1]
 simp only[Int.toNat_natCast]
 refine Cj hm f.cl (by simp) nb (fun i=>?_) j
 by_cases c:i<bm.places.length
 · rw[ni _ _ (by omega)]
   have l:=f.le i c
   split
   · rename_i e;subst e;rw[if_neg (by omega)]at l;omega
   · rw[zC _ _ c]
     exact(f.bd _ (aa (by rw[f.ln];exact c))).2
 · rw[FA (by rw[f.ln];omega),FA (by simp;omega)];omega
theorem VF{d:aC}(hd:d.dU)(n:Nat)(hn:n≤1000000):
 ∃(l:List Int) (e:aC),aN 0 N.bV [.bp 0 0,I n] [d.obj]=some (.t (tL l),[e.obj])∧e.dU∧l.length≤n∧sI l n=true:=
 ⟨_,_,I6 d n hn hd,aC.kF hd n,d.tZ n,zR d n⟩
theorem KB{b:Bel}{area:List Int}:zI b area=true↔∀x∈b.worlds,∀w∈x.whr,∀p∈area,0≤p→p<w.frm.length→nth w.frm p.toNat=never:=by
 have e1:∀i,Mt area b.worlds i=(nth b.worlds i).whr.any (fun w=>area.any (G3 w)):=fun i=>ye (nth b.worlds i).whr fun w=>area.any (G3 w)
 unfold zI
 rw[show Mt area b.worlds=fun i=>(nth b.worlds i).whr.any (fun w=>area.any (G3 w))from funext e1,ye b.worlds (fun x=>x.whr.any fun w=>area.any (G3 w))]
 simp only[Bool.not_eq_true',List.any_eq_false,Bool.not_eq_true]
 constructor
 · intro h x hx w hw p hp h0 h1
   have:=h x hx w hw p hp
   unfold G3 at this
   rw[decide_eq_true (by omega),Bool.true_and,Bool.not_eq_false',decide_eq_true_eq]at this
   exact this
 · intro h x hx w hw p hp
   have:=h x hx w hw p hp
   unfold G3
   by_cases c:0≤p∧p≤(w.frm.length:Int)-1
   · rw[this c.1 (by omega)];simp
   · rw[decide_eq_false c,Bool.false_and]
theorem KC{b:Bel}{i:Nat}{t p:Int}(h:p∈Cz b i t):∃x∈b.worlds,∃q:Nat,i<x.whr.length∧p=q∧q<(nth x.whr i).frm.length∧nth (nth x.whr i).frm q≤t:=by
 obtain⟨q,rfl, -,m⟩:=pF h
 unfold AL at m
 obtain⟨k,hk,m⟩:=List.any_eq_true.1 m
 rw[Bool.and_eq_true,decide_eq_true_eq,decide_eq_true_eq]at m
 obtain⟨⟨m1,m2⟩,m3⟩:=m
 simp only[Int.toNat_natCast]at m3
 unfold jS at m3
 rw[rZ,decide_eq_true_eq]at m3
 exact⟨_,aa (List.mem_range.1 hk),q,by omega,rfl,m3.1,m3.2⟩
abbrev ahH(e:aC)(m:aT)(b c:Bel)(bm:aT):aj:=[e.obj,.box (af m),.box [.t (.sl (b.worlds.map World.e))],.box [.t (.sl (c.worlds.map World.e))],.box (af bm)]
section
variable (e : aC) {m bm : aT} (b c : Bel) (t : Int) (l : List Int)
theorem ZW(i j:Int)(k:List Int)(w:Wh)(hl:l.length≤1000000)(h:∀q∈l,0≤q∧q<(w.frm.length:Int)∧nth w.frm q.toNat=1099511627776):∀z0 z1 z2 z3 z7 z8 z9 z15:D,
 exS aN K.ns ⟨[z0,z1,z2,z3,.bp 2 0,I t,.t (tL l),z7,z8,z9,.bp 4 0,I i,.t (tL k),I j,.bp 5 0,z15,I 0],ahH e m b c bm++[.box [I w.time,.t (tL w.frm)]]⟩=
 some (.exit 4,⟨[.und,.und,.und,.und,.bp 2 0,I t,.t (tL l),.und,.und,.und,.bp 4 0,I i,.t (tL k),I j,.bp 5 0,.und,I l.length],ahH e m b c bm++[.box [I w.time,.t (tL w.frm)]]⟩):=by
 intro z0 z1 z2 z3 z7 z8 z9 z15
 refine b5 (fun n=>⟨[.und,.und,.und,.und,.bp 2 0,I t,.t (tL l),.und,.und,.und,.bp 4 0,I i,.t (tL k),I j,.bp 5 0,.und,I n],ahH e m b c bm++[.box [I w.time,.t (tL w.frm)]]⟩) l.length rfl ?_ ?_ (by simp)
 · intro n hn
   obtain⟨q0,q1,q2⟩:=h _ (aa hn)
   obtain⟨wt,wf⟩:=w
   simp only at q1 q2
   obtain⟨places,roads⟩:=m
   obtain⟨bp,br⟩:=bm
   simp only[af,ahH,List.cons_append,List.nil_append]
   simp (disch:=omega) only[go_sem,K.jA,↓reduceIte,q2,Nat.reduceAdd,Nat.reduceSub]
 · obtain⟨wt,wf⟩:=w
   obtain⟨places,roads⟩:=m
   obtain⟨bp,br⟩:=bm
   simp only[af,ahH,List.cons_append,List.nil_append]
   simp (disch:=omega) only[go_sem,K.jA,↓reduceIte,Nat.reduceAdd,Nat.reduceSub]
theorem ZX(hb:bm.ok)(hl:l.length≤1000000)(i:Int)(k:List Int)(hk:k.length≤1000000)(h:∀p∈k,(dh bm p t).2=0∧∀q∈l,0≤q∧q<((dh bm p t).1.frm.length:Int)∧nth (dh bm p t).1.frm q.toNat=1099511627776):∀z0 z1 z2 z3 z7 z8 z9 z14 z15 z16:D,
 exS aN K.nu ⟨[z0,z1,z2,z3,.bp 2 0,I t,.t (tL l),z7,z8,z9,.bp 4 0,I i,.t (tL k),I 0,z14,z15,z16],ahH e m b c bm⟩=
 some (.exit 2,⟨[.und,.und,.und,.und,.bp 2 0,I t,.t (tL l),.und,.und,.und,.bp 4 0,I i,.t (tL k),I k.length,.und,.und,.und],ahH e m b c bm⟩):=by
 intro z0 z1 z2 z3 z7 z8 z9 z14 z15 z16
 refine b5 (fun j=>⟨[.und,.und,.und,.und,.bp 2 0,I t,.t (tL l),.und,.und,.und,.bp 4 0,I i,.t (tL k),I j,.und,.und,.und],ahH e m b c bm⟩) k.length rfl ?_ ?_ (by simp)
 · intro j hj
   obtain⟨a1,a2⟩:=h _ (aa hj)
   have st:=AD hb (nth k j) t
   have in3:=ZW e (m:=m) (bm:=bm) b c t l i j k (dh bm (nth k j) t).1 hl a2
   rw[a1]at st
   clear h a2
   generalize dh bm (nth k j) t=r at*
   obtain⟨⟨wt,wf⟩,rc⟩:=r
   obtain⟨places,roads⟩:=m
   obtain⟨bp,br⟩:=bm
   simp only[af,ahH,List.cons_append,List.nil_append]at*
   simp (disch:=omega) only[go_sem,K.jB,↓reduceIte,st,in3,Nat.reduceAdd,Nat.reduceSub]
 · obtain⟨places,roads⟩:=m
   obtain⟨bp,br⟩:=bm
   simp only[af,ahH,List.cons_append,List.nil_append]
   simp (disch:=omega) only[go_sem,K.jB,↓reduceIte,Nat.reduceAdd,Nat.reduceSub]
theorem ZY(hb:bm.ok)(hl:l.length≤1000000)(hs:b.sz)(h0:0<b.worlds.length)(n:Nat)(hn:(nth b.worlds 0).tags.length=n)(hnn:n≤1000)(h:∀i<n,∀p∈Cz b i t,(dh bm p t).2=0∧∀q∈l,0≤q∧q<((dh bm p t).1.frm.length:Int)∧nth (dh bm p t).1.frm q.toNat=1099511627776):∀z0 z1 z2 z3 z7 z8 z9 z12 z13 z14 z15 z16:D,
 exS aN K.ny ⟨[z0,z1,z2,z3,.bp 2 0,I t,.t (tL l),z7,z8,z9,.bp 4 0,I 0,z12,z13,z14,z15,z16],ahH e m b c bm⟩=
 some (.exit 0,⟨[.und,.und,.und,.und,.bp 2 0,I t,.t (tL l),.und,.und,.und,.bp 4 0,I n,.und,.und,.und,.und,.und],ahH e m b c bm⟩):=by
 intro z0 z1 z2 z3 z7 z8 z9 z12 z13 z14 z15 z16
 have ex:(b.worlds.map World.e)[0]?=some (nth b.worlds 0).e:=dz _ h0
 refine b5 (fun i=>⟨[.und,.und,.und,.und,.bp 2 0,I t,.t (tL l),.und,.und,.und,.bp 4 0,I i,.und,.und,.und,.und,.und],ahH e m b c bm⟩) n rfl ?_ ?_ (by simp)
 · intro i hi
   have po:=AM b hs i t
   have pl:=J5 b i t
   have in2:=ZX e (m:=m) (bm:=bm) b c t l hb hl i (Cz b i t) (by omega) (h i hi)
   clear h
   generalize Cz b i t=k at*
   generalize nth b.worlds 0=x0 at*
   obtain⟨tags,whr⟩:=x0
   simp only at hn
   obtain⟨ws⟩:=b
   obtain⟨cs⟩:=c
   obtain⟨places,roads⟩:=m
   obtain⟨bp,br⟩:=bm
   simp only[af,ahH,List.cons_append,List.nil_append]at*
   simp (disch:=omega) only[go_sem,K.jC,↓reduceIte,ex,hn,po,in2,Nat.reduceAdd,Nat.reduceSub]
 · clear h
   generalize nth b.worlds 0=x0 at*
   obtain⟨tags,whr⟩:=x0
   simp only at hn
   obtain⟨ws⟩:=b
   obtain⟨cs⟩:=c
   obtain⟨places,roads⟩:=m
   obtain⟨bp,br⟩:=bm
   simp only[af,ahH,List.cons_append,List.nil_append]at*
   simp (disch:=omega) only[go_sem,K.jC,↓reduceIte,ex,hn,Nat.reduceAdd,Nat.reduceSub]
end
theorem MZ(aw:aN 0 N.fh [] []=some (B true,[]))(li:List Int):aN 0 N.b9 [.t (tL li)] []=some (B true,[]):=by
 refine ax K.kO rfl ?_
 have lo:=LU li
 by_cases c:li.length≤400
 · simp only[c,decide_true]at lo
   have ro:=Vw li
   have d0:(aC.mk li 0).dU:=c
   generalize (aC.mk li 0)=d at*
   obtain⟨m,e1,mo,l1,hm,p1,p2,r1,r2⟩:=Vy d0
   obtain⟨b,e2,be,l2,hv,hs,w6,n3,hT⟩:=MW l1 hm (by omega)
   have la:=RA b hs
   obtain⟨g,e3,go,l3,g0,g1⟩:=Vx l2 90 (by omega) (by omega)
   obtain⟨l,e4,so,l4,sl,ss⟩:=VF l3 m.places.length (by omega)
   have bo:=Kn hm l (by omega)
   have bs:sI (kq m l) m.roads.length=true:=D5 _ _
   have bl:(kq m l).length≤m.roads.length:=gR _ _
   have se:=MT hm (by omega) b hs (by omega) (kq m l) (by omega) (wN b+g)
   have ba:=Ko hm (kq m l) (by omega)
   have ll:=RB hT
   have l0:=(Kz b).1
   have en:=MY (b:=b) (t:=wN b+g) (by omega)
   have e:=Hw hv bs (t:=wN b+g) (by omega) en
   rw[e]at se
   have eb:iH m (kq m l)=(dn m (kq m l),0):=by unfold iH;rw[bs];simp
   rw[eb]at ba
   have bok:=zU hm bs
   have bpl:(dn m (kq m l)).places=m.places:=rfl
   have bv:BV m (nth b.worlds 0).tags b.worlds:=wC hv
   obtain⟨w1,w2,f1,f2, -⟩:=fN hv
   have cz:(Bel.mk (b.worlds.map (jV (dn m (kq m l)) (wN b+g)))).sz:=by
    have bv2:=F7 bok bpl (t:=wN b+g) (by omega) bv en
    exact⟨by simp only[List.length_map];omega,fun x hx=>(bv2.wv x hx).wsz bok bv2.f2⟩
   have cl:=Mu _ cz l (by omega)
   generalize wN b=q0 at*
   have fact:zI ⟨b.worlds.map (jV (dn m (kq m l)) (q0+g))⟩ l=true→∀i<(nth b.worlds 0).tags.length,∀p∈Cz b i (q0+g),(dh (dn m (kq m l)) p (q0+g)).2=0∧
    ∀q∈l,0≤q∧q<((dh (dn m (kq m l)) p (q0+g)).1.frm.length:Int)∧nth (dh (dn m (kq m l)) p (q0+g)).1.frm q.toNat=1099511627776:=by
    intro hc i hi p hp
    rw[KB]at hc
    obtain⟨x,hx,k,hi2,rfl,hk,ht⟩:=KC hp
    have wx:=bv.wv x hx
    have vw:=wx.wv _ (aa hi2)
    obtain⟨v1,v2,v3, -⟩:=bZ vw
    have tt:inT (q0+g):=by
     have tw:=hT x hx _ (aa hi2)
     have:=List.any_eq_false.1 (by simpa using List.any_eq_false.1 en x hx:ky (q0+g) x=false) _ (aa hi2)
     simp only[decide_eq_true_eq]at this
     unfold inT at v2 ⊢
     omega
    have kp:k<(dn m (kq m l)).places.length:=by rw[bpl];omega
    obtain⟨s1,s2⟩:=pE bok (p:=k) (by omega) (by omega) tt
    obtain⟨u1,u2,u3, -⟩:=bZ s2
    refine⟨by rw[s1],fun q hq=>?_⟩
    obtain⟨j,hj⟩:=List.mem_iff_getElem?.1 hq
    obtain⟨qq0,qq1⟩:=uD ss (List.getElem?_eq_some_iff.1 hj).1
    rw[bB hj]at qq0 qq1
    refine⟨qq0,by rw[u1,bpl];exact qq1,?_⟩
    have ge:=Hx bok (w:=nth x.whr i) (by rw[bpl,v1]) v3 tt kp ht q.toNat
    have sf:=slF bok (w:=nth x.whr i) (by rw[bpl,v1]) v3 (q0+g)
    have nv:nth (vq (dn m (kq m l)) (nth x.whr i) (q0+g)).frm q.toNat=never:=by
     refine hc (jV (dn m (kq m l)) (q0+g) x) (List.mem_map_of_mem hx) _ ?_ q hq qq0 (by rw[sf.ln,bpl];exact qq1)
     have e2:=rG (dn m (kq m l)) (q0+g) x.whr x.whr.length i (Nat.le_refl _)
     rw[if_pos hi2]at e2
     rw[← e2]
     exact aa (by rw[Kx];exact hi2)
    have le:=(kH (u3 _ (aa (j:=q.toNat) (by rw[u1,bpl];omega)))).2
    unfold never at nv
    omega
   obtain⟨n,hn⟩:∃n,n=(nth b.worlds 0).tags.length:=⟨_,rfl⟩
   rw[← hn]at fact
   cases hc:zI ⟨b.worlds.map (jV (dn m (kq m l)) (q0+g))⟩ l with
   | true=>
     rw[hc]at cl
     have lp:=ZY e4 (m:=m) b ⟨b.worlds.map (jV (dn m (kq m l)) (q0+g))⟩ (q0+g) l bok (by omega) hs (by omega) n hn.symm (by omega) (fact hc)
     clear fact bv hv hT en e eb hc
     generalize b.worlds.map (jV (dn m (kq m l)) (q0+g))=cs at*
     generalize dn m (kq m l)=bm at*
     generalize kq m l=br at*
     obtain⟨ws⟩:=b
     obtain⟨places,roads⟩:=m
     obtain⟨bp,brd⟩:=bm
     simp only[af,ahH]at*
     simp (disch:=omega) only[go_sem,K.b9,↓reduceIte,lo,ro,mo,be,la,go,so,bo,se,ba,cl,lp,aw,Nat.reduceAdd,Nat.reduceSub]
   | false=>
     rw[hc]at cl
     clear fact bv hv hT en e eb hc
     generalize b.worlds.map (jV (dn m (kq m l)) (q0+g))=cs at*
     generalize dn m (kq m l)=bm at*
     generalize kq m l=br at*
     obtain⟨ws⟩:=b
     obtain⟨places,roads⟩:=m
     obtain⟨bp,brd⟩:=bm
     simp only[af]at*
     simp (disch:=omega) only[go_sem,K.b9,↓reduceIte,lo,ro,mo,be,la,go,so,bo,se,ba,cl,aw,Nat.reduceAdd,Nat.reduceSub]
 · simp only[c,decide_false]at lo
   simp (disch:=omega) only[go_sem,K.b9,↓reduceIte,lo,aw,Nat.reduceAdd,Nat.reduceSub]
end Go.Ev
