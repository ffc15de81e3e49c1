/- Parts of the proof: see the text that holds the theorem. -/
import Derived.Test.YtifghciaddehaaaGreatZ4
set_option linter.all false
set_option maxRecDepth 100000
namespace Go.Ev
open Go
variable [Lib] [cu] [bP] [gG] [gM] [jO] [fW] [fS] [iR] [gF]
theorem LD{m:aK}(h:m.ok){w:Wh}(hv:dq m w=true)(l:List Int)(a b bl:Int):
 (AH m w l a b bl=(⟨b,dn m b none (dn m (b-bl) (some l) (EZ w.frm l l.length))⟩,0)∧j5 m w l a b=0∧w.time≤b∧max a w.time<b-bl∧inT bl∧
  (dn m (b-bl) (some l) (EZ w.frm l l.length)).length=m.places.length∧(∀x∈dn m (b-bl) (some l) (EZ w.frm l l.length),plT x))∨
 ((AH m w l a b bl).1=w∧((AH m w l a b bl).2=0→w.time≤b∧j5 m w l a b=0)):=by
 by_cases c0:j5 m w l a b=0
 · obtain⟨-,h0,hs,ia,ib,hab⟩:=lW c0
   by_cases c1:inT bl
   · by_cases c2:b<w.time
     · right;unfold AH;rw[if_neg (by simpa using c0),if_neg (fun x=>x c1),if_pos c2];exact⟨rfl,by simp⟩
     · by_cases c3:b-max a w.time≤bl
       · right;unfold AH;rw[if_neg (by simpa using c0),if_neg (fun x=>x c1),if_neg c2,if_pos c3];exact⟨rfl,fun _=>⟨by omega,c0⟩⟩
       · left
         obtain⟨v1,v2,v3, -⟩:=dH hv
         have pl:∀x∈EZ w.frm l l.length,plT x:=by
          have key:∀k,∀x∈EZ w.frm l k,plT x:=by
           intro k
           induction k with
           | zero=>exact v3
           | succ k ih=>
             intro x hx
             rcases List.mem_or_eq_of_mem_set hx with hx | hx
             · exact ih x hx
             · exact .inl hx
          exact key _
         have bn:bnd (EZ w.frm l l.length):=fun x hx=>nU (pl x hx)
         unfold inT at ia c1 v2 ib
         refine⟨?_,c0,by omega,by omega,c1,(y0 h (by rw[uM];exact v1) bn).1,AJ h plT (by rw[uM];exact v1) bn pl (fun x h1 h2=> .inr ⟨by omega,h2⟩)⟩
         unfold AH;rw[if_neg (by simpa using c0),if_neg (fun x=>x (by unfold inT;omega)),if_neg c2,if_neg c3]
   · right;unfold AH;rw[if_neg (by simpa using c0),if_pos c1];exact⟨rfl,by simp⟩
 · right;unfold AH;rw[if_pos c0];exact⟨rfl,fun h=>absurd h c0⟩
theorem LF{m:aK}(h:m.ok){w:Wh}(hv:dq m w=true)(l:List Int)(a b bl:Int):dq m (AH m w l a b bl).1=true:=by
 rcases LD h hv l a b bl with⟨e,c0, -,hm,hbl,ln,pl⟩ | ⟨e, -⟩
 · obtain⟨-, -,hs,ia,ib,hab⟩:=lW c0
   rw[e]
   exact s9 h ln pl (by unfold inT at ib;omega) (Int.le_refl _) ib
 · rw[e];exact hv
end Go.Ev
namespace Go.Ev
open Go
variable [Lib] [cu] [bP] [gG] [gM] [jO] [fW] [fS] [iR] [gF] [eX] [dT]
def lexB:List Int→List Int→Bool
 | _,[]=>false
 | [],_::_=>true
 | a::r,b::s=>decide (a<b)||(decide (a=b)&&lexB r s)
theorem u9(a:Int)(l:List Int)(j:Nat):nth (a::l) (j+1)=nth l j:=by simp[nth]
theorem vd(a:Int)(l:List Int):nth (a::l) 0=a:=by simp[nth]
theorem pL:∀a b:List Int,qH a b=lexB a b
 | a,[]=>by
   unfold qH lexB
   simp
 | [],b::s=>by
   unfold qH lexB
   simp
 | a::r,b::s=>by
   have ih:=pL r s
   unfold qH at ih ⊢
   have e:min (a::r).length (b::s).length=min r.length s.length+1:=by simp only[List.length_cons];omega
   rw[e,List.range_succ_eq_map,List.find?_cons]
   simp only[vd]
   by_cases h:a=b
   · subst h
     simp only[ne_eq,not_true_eq_false,decide_false,Bool.false_eq_true,List.find?_map,lexB,decide_true,Bool.true_and,Int.lt_irrefl,Bool.false_or]
     rw[← ih]
     have:((fun j=>decide (¬nth (a::r) j=nth (a::s) j)) ∘ Nat.succ)=fun j=>decide (nth r j≠nth s j):=by
      funext j
      simp only[Function.comp,Nat.succ_eq_add_one,u9,ne_eq]
     rw[this]
     cases (List.range (min r.length s.length)).find? (fun j=>decide (nth r j≠nth s j))with
     | some j=>simp only[Option.map_some,Nat.succ_eq_add_one,u9]
     | none=>simp only[Option.map_none,List.length_cons,Nat.add_lt_add_iff_right]
   · simp only[ne_eq,h,not_false_eq_true,decide_true,lexB,decide_false,Bool.false_and,Bool.or_false,vd]
theorem lex_trans:∀ {a b c:List Int},lexB a b=true→lexB b c=true→lexB a c=true
 | _,_,[],_,h=>by simp[lexB]at h
 | [],_,_::_,_,_=>rfl
 | _::_,[],_,h,_=>by simp[lexB]at h
 | a::r,b::s,c::t,h1,h2=>by
   simp only[lexB,Bool.or_eq_true,Bool.and_eq_true,decide_eq_true_eq]at h1 h2 ⊢
   rcases h1 with h1 | ⟨h1,k1⟩
   · rcases h2 with h2 | ⟨h2,k2⟩
     · left;omega
     · left;omega
   · rcases h2 with h2 | ⟨h2,k2⟩
     · left;omega
     · right;exact⟨by omega,lex_trans k1 k2⟩
theorem lex_irrefl:∀a:List Int,lexB a a=false
 | []=>rfl
 | a::r=>by simp[lexB,lex_irrefl r]
theorem DE:∀a b:List Int,lexB a b=true∨a=b∨lexB b a=true
 | [],[]=> .inr (.inl rfl)
 | [],_::_=> .inl rfl
 | _::_,[]=> .inr (.inr rfl)
 | a::r,b::s=>by
   simp only[lexB,Bool.or_eq_true,Bool.and_eq_true,decide_eq_true_eq,List.cons.injEq]
   rcases DE r s with h | h | h
   · by_cases c:a<b
     · exact .inl (.inl c)
     · by_cases c2:a=b
       · exact .inl (.inr ⟨c2,h⟩)
       · exact .inr (.inr (.inl (by omega)))
   · by_cases c:a<b
     · exact .inl (.inl c)
     · by_cases c2:a=b
       · exact .inr (.inl ⟨c2,h⟩)
       · exact .inr (.inr (.inl (by omega)))
   · by_cases c:a<b
     · exact .inl (.inl c)
     · by_cases c2:a=b
       · exact .inr (.inr (.inr ⟨c2.symm,h⟩))
       · exact .inr (.inr (.inl (by omega)))
structure WV(m:aK)(first:List Int)(x:World):Prop where
 pm:x.tags.Perm first
 wl:x.whr.length=first.length
 wv:∀w∈x.whr,dq m w=true
structure BV(m:aK)(first:List Int)(ws:List World):Prop where
 pr:fJ first=true
 f1:1≤first.length
 f2:first.length≤12
 wv:∀x∈ws,WV m first x
 up:ws.Pairwise fun x y=>lexB x.tags y.tags=true
theorem Fl{a b:List Int}(h:a.Perm b)(hb:fJ b=true):fJ a=true:=by
 rw[zi]at hb ⊢
 exact⟨h.nodup_iff.2 hb.1,fun x hx=>hb.2 x (h.mem_iff.1 hx)⟩
theorem BV.bel{m:aK}{first:List Int}{ws:List World}(h:BV m first ws)(h1:1≤ws.length)(h2:ws.length≤24):p5 m ⟨ws⟩=true:=by
 have w0:=h.wv _ (ah (l:=ws) (j:=0) (by omega))
 have l0:=w0.pm.length_eq
 simp only[p5,Bool.and_eq_true,decide_eq_true_eq,List.all_eq_true,List.mem_range,oG,Bool.or_eq_true,Jg]
 have f1:=h.f1
 have f2:=h.f2
 refine⟨⟨⟨h1,h2⟩,by omega⟩,fun i hi=>?_⟩
 have wi:=h.wv _ (ah (l:=ws) (j:=i) hi)
 have li:=wi.pm.length_eq
 have wl:=wi.wl
 refine⟨⟨⟨by omega,Fl wi.pm h.pr⟩,?_⟩,fun k hk=>⟨?_,?_⟩⟩
 · by_cases c:i=0
   · exact .inl c
   · right
     rw[pL]
     have:=(List.pairwise_iff_getElem.1 h.up) (i-1) i (by omega) hi (by omega)
     rwa [← b8 (List.getElem?_eq_getElem (by omega:i-1<ws.length)),←b8 (List.getElem?_eq_getElem hi)]at this
 · exact kF.2 (w0.pm.symm.mem_iff.1 (wi.pm.mem_iff.1 (ah hk)))
 · exact wi.wv _ (ah (by omega))
theorem xz{m:aK}{ws:List World}(h:p5 m ⟨ws⟩=true):BV m (nth ws 0).tags ws:=by
 obtain⟨h1,h2,h3,h4,h5⟩:=gI h
 simp only at h1 h2 h3 h4 h5
 have p0:=(iL (h5 0 (by omega))).2.2.1
 refine⟨p0,h3,h4,fun x hx=>?_,?_⟩
 · obtain⟨i,hi⟩:=List.mem_iff_getElem?.1 hx
   have il:=(List.getElem?_eq_some_iff.1 hi).1
   obtain⟨w1,w2,w3,w4⟩:=iL (h5 i il)
   rw[b8 hi]at w1 w2 w3 w4
   refine⟨sC (iV w3) (iV p0) w1 fun y hy=>?_,w2,fun w hw=>?_⟩
   · obtain⟨j,hj⟩:=List.mem_iff_getElem?.1 hy
     have:=(w4 j (List.getElem?_eq_some_iff.1 hj).1).1
     rwa [b8 hj]at this
   · obtain⟨j,hj⟩:=List.mem_iff_getElem?.1 hw
     have:=(w4 j (by rw[w1,←w2];exact(List.getElem?_eq_some_iff.1 hj).1)).2
     rwa [b8 hj]at this
 · have key:∀d i,i+d+1<ws.length→lexB (nth ws i).tags (nth ws (i+d+1)).tags=true:=by
    intro d
    induction d with
    | zero=>
      intro i hi
      have:=h5 (i+1) hi
      simp only[oG,Bool.and_eq_true,Bool.or_eq_true,decide_eq_true_eq]at this
      have:=this.1.2
      rw[← pL]
      simpa using this
    | succ d ih=>
      intro i hi
      have a:=ih i (by omega)
      have:=h5 (i+(d+1)+1) hi
      simp only[oG,Bool.and_eq_true,Bool.or_eq_true,decide_eq_true_eq]at this
      have b:=this.1.2.resolve_left (by omega)
      rw[pL,show i+(d+1)+1-1=i+d+1 by omega]at b
      exact lex_trans a b
   rw[List.pairwise_iff_getElem]
   intro i j hi hj hij
   have:=key (j-i-1) i (by omega)
   rw[show i+(j-i-1)+1=j by omega,b8 (List.getElem?_eq_getElem hi),b8 (List.getElem?_eq_getElem hj)]at this
   exact this
end Go.Ev
namespace Go.Ev.K
open Go.Ev
end Go.Ev.K
namespace Go.Ev
class jD [Lib]:Prop where
namespace K
variable [Lib] [jD]
end K
end Go.Ev
namespace Go.Ev.K
open Go.Ev
def zj:C:=(.its [u (.bin .lss v7 v6)] [] 0 .skip (.exit 0) (.seq (.blk 1 (.seq (.reg [a 2 v5 v7,h 2 l0,w 4 (.al [.t (.int .i64 (0)),.nil] []),u (.st l0 l1 2 [])] []) (.reg [f 1 v3,g l0,f 0 v4,g l0,f 1 v4,g l0,u (.ca N.aL 0 [] [.l 0]),u (.bd [.t (.int .i64 (0)),.nil] [(0,1,.l 3),(1,1,.l 0)]),u (.bs [.l 0] 2),u (.app l7 l0 true 2),f 1 v3,u (.st l0 l1 1 [])] [(1,7),(1,9),(3,7)]))) (.reg [u (.bin .add v7 (.i 1)),w 7 (.mv l0)] [])))
def zL:C:= .loop true [0,1,4] K.zj
def jB:Fn:={ nargs:=1,vars:=[0,1,2,3,5,11,12,13],body:=(.seq (.reg [w 1 (.bx v0 2),w 2 (.al [.nil,.nil] [])] []) (.seq (.reg [f 0 v1,g l0,u (.ca N.aL 0 [] [.l 0]),u (.bd [.nil,.nil] [(0,1,.l 0)]),w 3 (.al [.nil,.nil] [(1,2)]),u (.st l0 l1 2 [(1,2)])] []) (.seq (.seq (.reg [f 1 v1,w 5 (.ld l0 1 false),w 6 (.ln l0),w 7 (.mv (.i 0))] []) (.blk 0 K.zL)) (.seq (.reg [h 2 v3,u (.st v2 l0 2 [])] []) .ret)))),res:=[(2,some (2,true))]}
def zk:C:=(.its [u (.bin .lss v20 v19)] [] 0 .skip (.exit 2) (.seq (.blk 3 (.seq (.reg [m v20,a 2 v18 v20,h 2 l0,w 12 (.al [.t (.int .i64 (0)),.nil] []),w 11 (.mv l3),u (.st l1 l2 2 [])] []) (.seq (.reg [h 2 v3,h 2 v12,m v2,u (.ca N.gO 0 [] [.l 2,.l 1,.l 0]),m l0,u (.ex l0 0),u (.ex l1 1),w 13 (.al [.t (.int .i64 (0)),.nil] []),u (.st l0 l2 2 []),w 14 (.mv l2)] []) (.seq (.ite [m v14,u (.bin .eql l0 (.i 6))] [] 0 (.seq (.reg [h 1 v4,m v14,u (.st v5 l1 1 []),w 6 (.mv l1)] []) .ret) .skip) (.seq (.ite [m v8,u (.bin .eql l0 (.i 0))] [] 0 (.reg [m v14,w 8 (.mv l0)] []) .skip) (.reg [f 1 v10,g l0,m v11,h 2 v13,a 2 l2 l1,u (.st l0 l1 2 [])] [])))))) (.reg [u (.bin .add v20 (.i 1)),w 20 (.mv l0)] [])))
def zM:C:= .loop true [0,1,6,9,11,12,13,14] K.zk
def zl:C:=(.its [u (.bin .lss v17 v16)] [] 0 .skip (.exit 0) (.seq (.blk 1 (.seq (.reg [a 2 v15 v17,h 2 l0,w 9 (.al [.nil,.nil] []),u (.st l0 l1 2 [])] []) (.seq (.reg [h 2 v9,u (.ca N.fm 1 [] [.l 0]),w 10 (.al [.nil,.nil] []),u (.st l0 l1 2 [])] []) (.seq (.seq (.reg [f 1 v9,w 18 (.ld l0 1 false),w 19 (.ln l0),w 20 (.mv (.i 0))] []) (.blk 2 K.zM)) (.reg [f 0 v7,g l0,h 2 v10,u (.bs [.l 0] 2),u (.app l2 l0 true 2),f 0 v7,u (.st l0 l1 1 [])] []))))) (.reg [u (.bin .add v17 (.i 1)),w 17 (.mv l0)] [])))
def zN:C:= .loop true [0,1,6,9,10,11,12,13,14,18,19,20] K.zl
def iI:Fn:={ nargs:=3,vars:=[0,1,2,3,4,6,7,8,9,11,12,13,14,15,16,29,30,31,38,39,40],body:=(.seq (.reg [w 3 (.bx v0 2),w 4 (.bx v1 1),w 5 (.al [.nil] []),w 6 (.mv (.i 0))] []) (.seq (.ite [h 2 v3,u (.ca N.dy 0 [] [.l 0]),u (.un .not l0),m l0,y 0 false (.fa v4 0),y 1 false (.ld l0 1 false),y 2 false (.ln l0),y 3 false (.ca N.dF 0 [] [.l 0,.i 1,.i 24]),y 4 false (.un .not l0),u (.pk l5 (.b true) l0)] [] 0 (.seq (.reg [h 1 v4,u (.st v5 l0 1 []),w 6 (.mv (.i 6))] []) .ret) .skip) (.seq (.reg [w 7 (.al [.nil] [(0,2)])] []) (.seq (.reg [w 8 (.mv (.i 0))] []) (.seq (.seq (.reg [f 0 v4,w 15 (.ld l0 1 false),w 16 (.ln l0),w 17 (.mv (.i 0))] []) (.blk 0 K.zN)) (.seq (.ite [m v8,u (.bin .neq l0 (.i 0))] [] 0 (.seq (.reg [h 1 v4,m v8,u (.st v5 l1 1 []),w 6 (.mv l1)] []) .ret) .skip) (.seq (.reg [h 1 v7,u (.st v5 l0 1 []),w 6 (.mv (.i 0))] []) .ret))))))),res:=[(5,some (1,true)),(6,none)]}
def ve:C:=(.its [u (.bin .lss v7 v6)] [] 0 .skip (.exit 0) (.seq (.blk 1 (.seq (.reg [a 2 v5 v7,h 2 l0,w 4 (.al [.t (.int .i64 (0)),.nil] []),u (.st l0 l1 2 [])] []) (.reg [f 1 v3,g l0,f 0 v4,g l0,f 1 v4,g l0,u (.ca N.aL 1 [] [.l 0]),u (.bd [.t (.int .i64 (0)),.nil] [(0,1,.l 3),(1,1,.l 0)]),u (.bs [.l 0] 2),u (.app l7 l0 true 2),f 1 v3,u (.st l0 l1 1 [])] [(1,7),(1,9),(3,7)]))) (.reg [u (.bin .add v7 (.i 1)),w 7 (.mv l0)] [])))
def wF:C:= .loop true [0,1,4] K.ve
def fm:Fn:={ nargs:=1,vars:=[0,1,2,3,5,11,12,13],body:=(.seq (.reg [w 1 (.bx v0 2),w 2 (.al [.nil,.nil] [])] []) (.seq (.reg [f 0 v1,g l0,u (.ca N.aL 1 [] [.l 0]),u (.bd [.nil,.nil] [(0,1,.l 0)]),w 3 (.al [.nil,.nil] [(1,2)]),u (.st l0 l1 2 [(1,2)])] []) (.seq (.seq (.reg [f 1 v1,w 5 (.ld l0 1 false),w 6 (.ln l0),w 7 (.mv (.i 0))] []) (.blk 0 K.wF)) (.seq (.reg [h 2 v3,u (.st v2 l0 2 [])] []) .ret)))),res:=[(2,some (2,true))]}
end Go.Ev.K
namespace Go.Ev
class iW [Lib]:Prop where
 vf:Lib.fs N.jB=some K.jB
 vg:Lib.fs N.iI=some K.iI
 p4:Lib.fs N.fm=some K.fm
namespace K
variable [Lib] [iW]
theorem vf:Lib.fs N.jB=some K.jB:=iW.vf
theorem vg:Lib.fs N.iI=some K.iI:=iW.vg
theorem p4:Lib.fs N.fm=some K.fm:=iW.p4
end K
end Go.Ev
namespace Go.Ev
open Go
variable [Lib] [cu] [bP] [gG] [gM] [jO] [fW] [fS] [iR] [gF] [eX] [dT] [jD] [iW]
end Go.Ev
namespace Go.Ev
open Go
variable [Lib] [cu] [bP] [gG] [gM] [jO] [fW] [fS] [iR] [gF]
end Go.Ev
namespace Go.Ev
open Go
variable [Lib] [cu] [bP] [gG] [gM] [jO] [fW] [fS] [iR] [gF] [eX] [dT]
theorem Ip{l:List Int}{i j:Nat}(hi:i<l.length)(hj:j<l.length):(Ih l i j).Perm l:=by
 have:=Array.swap_perm (xs:=l.toArray) (i:=i) (j:=j) (by simpa using hi) (by simpa using hj)
 rw[Array.perm_iff_toList_perm]at this
 unfold Ih
 rw[b8 (List.getElem?_eq_getElem hi),b8 (List.getElem?_eq_getElem hj)]
 simpa [Array.swap]using this
theorem vh{m:aK}{l:List Wh}(hl:∀w∈l,dq m w=true)(i:Nat){x:Wh}(hx:i<l.length→dq m x=true):∀w∈l.set i x,dq m w=true:=by
 intro w hw
 by_cases h:i<l.length
 · rcases List.mem_or_eq_of_mem_set hw with a | rfl
   · exact hl w a
   · exact hx h
 · rw[List.set_eq_of_length_le (by omega)]at hw;exact hl w hw
theorem zm{m:aK}(h:m.ok){w:Wh}(hv:dq m w=true)(t:Int):dq m (lD w t).1=true:=by
 unfold lD
 split
 · exact hv
 · obtain⟨a,b,c, -⟩:=dH hv
   have cl:=y4 h hv
   unfold inT at b
   exact y3 h a (by simp only;unfold inT;omega) c (GJ (t':=t) (by omega) cl)
theorem LG{m:aK}{first:List Int}{x:World}(h:WV m first x)(tag:Int){w:Wh}(hw:(bU x.tags tag).toNat<x.whr.length→dq m w=true):WV m first (Fe tag x w):=
 ⟨h.pm,by simp[Fe,h.wl],vh h.wv _ hw⟩
def adC(m:aK)(tag:Int)(l:List Int)(a b:Int)(x:World):Option World:=
 if(AP m tag l a b x).2=43 then none else some (if(AP m tag l a b x).2=0 then Fe tag x (AP m tag l a b x).1 else x)
theorem G6(m:aK)(tag:Int)(l:List Int)(a b:Int)(ws:List World):∀j,j≤ws.length→mQ m tag l a b ws j=(ws.take j).filterMap (adC m tag l a b)
 | 0,_=>by simp[mQ]
 | j+1,h=>by
   rw[uH (by omega),List.filterMap_append]
   simp only[mQ,G6 m tag l a b ws j (by omega),Dn,adC,List.filterMap_cons,List.filterMap_nil]
   split<;>simp_all
theorem G7(m:aK)(tag:Int)(l:List Int)(a b bl:Int)(ws:List World):∀j,j≤ws.length→oH m tag l a b bl ws j=(ws.take j).map fun x=>if(AQ m tag l a b bl x).2=0 then Fe tag x (AQ m tag l a b bl x).1 else x
 | 0,_=>by simp[oH]
 | j+1,h=>by
   rw[uH (by omega),List.map_append]
   simp only[oH,G7 m tag l a b bl ws j (by omega),Ff,List.map_cons,List.map_nil]
theorem Fm{m:aK}(hm:m.ok){first:List Int}{tag:Int}{l:List Int}{a b:Int}{x y:World}(h:WV m first x)(e:adC m tag l a b x=some y):WV m first y∧y.tags=x.tags:=by
 unfold adC at e
 split at e
 · cases e
 · simp only[Option.some.injEq]at e
   subst e
   split
   · exact⟨LG h tag fun hl=>LC hm (h.wv _ (ah hl)) l a b,rfl⟩
   · exact⟨h,rfl⟩
theorem aaS{m:aK}(hm:m.ok){first:List Int}{ws:List World}(h:BV m first ws)(tag:Int)(l:List Int)(a b:Int):BV m first (mQ m tag l a b ws ws.length):=by
 rw[G6 m tag l a b ws _ (Nat.le_refl _),List.take_length]
 refine⟨h.pr,h.f1,h.f2,fun y hy=>?_,?_⟩
 · obtain⟨x,hx,e⟩:=List.mem_filterMap.1 hy
   exact(Fm hm (h.wv x hx) e).1
 · rw[List.pairwise_filterMap]
   refine(List.Pairwise.imp_of_mem ?_ h.up)
   intro x y hx hy hxy x' ex y' ey
   rw[(Fm hm (h.wv x hx) ex).2,(Fm hm (h.wv y hy) ey).2]
   exact hxy
theorem aaT{m:aK}(hm:m.ok){first:List Int}{ws:List World}(h:BV m first ws)(tag:Int)(l:List Int)(a b bl:Int):BV m first (oH m tag l a b bl ws ws.length):=by
 rw[G7 m tag l a b bl ws _ (Nat.le_refl _),List.take_length]
 have tg:∀x:World,(if(AQ m tag l a b bl x).2=0 then Fe tag x (AQ m tag l a b bl x).1 else x).tags=x.tags:=by
  intro x;split<;>rfl
 refine⟨h.pr,h.f1,h.f2,fun y hy=>?_,?_⟩
 · obtain⟨x,hx,rfl⟩:=List.mem_map.1 hy
   have wx:=h.wv x hx
   split
   · exact LG wx tag fun hl=>LF hm (wx.wv _ (ah hl)) l a b bl
   · exact wx
 · rw[List.pairwise_map]
   refine h.up.imp fun{x y} hxy=>?_
   rw[tg,tg];exact hxy
theorem OH{m:aK}(hm:m.ok){first:List Int}{x:World}(h:WV m first x){i j:Nat}(hi:i<first.length)(hj:j<first.length)(t:Int):WV m first (tB i j t x):=by
 have wl:=h.wl
 have tl:=h.pm.length_eq
 refine⟨(Ip (by omega) (by omega)).trans h.pm,by simp[tB,wl],?_⟩
 exact vh (vh h.wv i fun hl=>zm hm (h.wv _ (ah hl)) t) j fun hl=>zm hm (h.wv _ (ah (by simpa using hl))) t
theorem vi{m:aK}(hm:m.ok){first:List Int}{ws:List World}(h:∀x∈ws,WV m first x){i j:Nat}(hi:i<first.length)(hj:j<first.length)(t:Int):∀k,k≤ws.length→∀x∈iC i j t ws k,WV m first x
 | 0,_,x,hx=>h x hx
 | k+1,hk,x,hx=>by
   simp only[iC,ze]at hx
   split at hx
   · rcases List.mem_append.1 hx with hx | hx
     · exact vi hm h hi hj t k (by omega) x hx
     · rw[List.mem_singleton.1 hx]
       exact OH hm (h _ (ah (by omega))) hi hj t
   · exact vi hm h hi hj t k (by omega) x hx
theorem zn{m:aK}(hm:m.ok){a b:List Wh}(ha:∀w∈a,dq m w=true)(hb:∀w∈b,dq m w=true):∀p,p≤a.length→p≤b.length→∀w∈lx a b p,dq m w=true
 | 0,_,_,w,hw=>ha w hw
 | p+1,h1,h2,w,hw=>by
   refine vh (zn hm ha hb p (by omega) (by omega)) p (fun _=>?_) w hw
   exact(Io hm (ha _ (ah (by omega))) (hb _ (ah (by omega)))).2.1
theorem OI{out:List World}{x:World}{k:Nat}(h:k<gK out x):lexB (nth out k).tags x.tags=true:=by
 unfold gK at h
 split at h
 · rename_i j hf
   rw[List.find?_range_eq_some]at hf
   have:=hf.2.2 k h
   rw[← pL];simpa using this
 · rename_i hf
   have:=List.find?_eq_none.1 hf k (List.mem_range.2 h)
   rw[← pL];simpa using this
theorem OJ{out:List World}{x:World}(h:gK out x<out.length):lexB (nth out (gK out x)).tags x.tags=false:=by
 unfold gK at h ⊢
 split
 · rename_i j hf
   rw[List.find?_range_eq_some]at hf
   have:=hf.1
   rw[← pL];simpa using this
 · rename_i hf
   rw[hf]at h;simp at h
theorem OK{m:aK}(hm:m.ok){first:List Int}{out:List World}(h:BV m first out){x:World}(hx:WV m first x):BV m first (pJ out x):=by
 have kl:=BG out x
 unfold pJ
 split
 · rename_i c
   obtain⟨c1,c2⟩:=c
   have wk:=h.wv _ (ah c1)
   have w1:=wk.wl
   have w2:=hx.wl
   refine⟨h.pr,h.f1,h.f2,fun y hy=>?_,?_⟩
   · rcases List.mem_or_eq_of_mem_set hy with a | rfl
     · exact h.wv y a
     · exact⟨hx.pm,by rw[AR,oI];exact w1,zn hm wk.wv hx.wv _ (by omega) (by omega)⟩
   · have u:=h.up
     rw[← List.pairwise_map (f:=World.tags) (R:=fun a b=>lexB a b=true)]at u ⊢
     rw[List.map_set]
     have e:(out.map World.tags).set (gK out x) x.tags=out.map World.tags:=by
      apply List.ext_getElem?
      intro i
      by_cases hi:gK out x=i
      · rw[← hi,List.getElem?_set_self (by simpa using c1),List.getElem?_map,ff c1,←c2];rfl
      · rw[List.getElem?_set_ne hi]
     rw[e];exact u
 · rename_i c
   refine⟨h.pr,h.f1,h.f2,fun y hy=>?_,?_⟩
   · simp only[List.mem_append,List.mem_singleton]at hy
     rcases hy with(hy | rfl) | hy
     · exact h.wv y (List.mem_of_mem_take hy)
     · exact hx
     · exact h.wv y (List.mem_of_mem_drop hy)
   · have u:=h.up
     have lo:∀y∈out.take (gK out x),lexB y.tags x.tags=true:=by
      intro y hy
      obtain⟨i,hi⟩:=List.mem_iff_getElem?.1 hy
      have il:=(List.getElem?_eq_some_iff.1 hi).1
      rw[List.length_take]at il
      rw[List.getElem?_take_of_lt (by omega)]at hi
      have:=OI (out:=out) (x:=x) (k:=i) (by omega)
      rwa [b8 hi]at this
     have hi:∀y∈out.drop (gK out x),lexB x.tags y.tags=true:=by
      intro y hy
      obtain⟨i,hi⟩:=List.mem_iff_getElem?.1 hy
      have il:=(List.getElem?_eq_some_iff.1 hi).1
      rw[List.length_drop]at il
      rw[List.getElem?_drop]at hi
      have c1:gK out x<out.length:=by omega
      have at_:=OJ c1
      have ne:(nth out (gK out x)).tags≠x.tags:=fun e=>c ⟨c1,e⟩
      have first_:lexB x.tags (nth out (gK out x)).tags=true:=by
       rcases DE (nth out (gK out x)).tags x.tags with a | a | a
       · rw[a]at at_;cases at_
       · exact absurd a ne
       · exact a
      by_cases i0:i=0
      · subst i0
        rw[Nat.add_zero]at hi
        rwa [b8 hi]at first_
      · have:=(List.pairwise_iff_getElem.1 u) (gK out x) (gK out x+i) (by omega) (by omega) (by omega)
        rw[← b8 (List.getElem?_eq_getElem (by omega:gK out x<out.length)),←b8 (List.getElem?_eq_getElem (by omega:gK out x+i<out.length)),b8 hi]at this
        exact lex_trans first_ this
     have td:out.take (gK out x)++out.drop (gK out x)=out:=List.take_append_drop _ _
     have u2:=u
     rw[← td,List.pairwise_append]at u2
     rw[List.append_assoc,List.pairwise_append]
     refine⟨u2.1,?_,fun y hy z hz=>?_⟩
     · rw[List.singleton_append,List.pairwise_cons];exact⟨hi,u2.2.1⟩
     · simp only[List.singleton_append,List.mem_cons]at hz
       rcases hz with rfl | hz
       · exact lo y hy
       · exact u2.2.2 y hy z hz
theorem BN{m:aK}(hm:m.ok){first:List Int}(pr:fJ first=true)(f1:1≤first.length)(f2:first.length≤12){l:List World}(hl:∀x∈l,WV m first x):∀j,j≤l.length→BV m first (qL l j)
 | 0,_=>⟨pr,f1,f2,fun x hx=>by simp[qL]at hx,by simp[qL]⟩
 | j+1,h=>OK hm (BN hm pr f1 f2 hl j (by omega)) (hl _ (ah (by omega)))
theorem aaU{a b:List Int}(h:lexB a b=true):a≠b:=fun e=>by rw[e,lex_irrefl]at h;cases h
structure SH(n p:Nat)(l:List Wh):Prop where
 ln:l.length=n
 fr:∀w∈l,w.frm.length=p
theorem WV.sh{m:aK}{first:List Int}{x:World}(h:WV m first x):SH first.length m.places.length x.whr:=
 ⟨h.wl,fun w hw=>(dH (h.wv w hw)).1⟩
end Go.Ev
namespace Go.Ev
open Go
variable [Lib] [cu] [bP] [gG] [gM] [jO] [fW] [fS] [iR] [gF] [eX] [dT] [jD] [iW]
theorem Rp.more{H:af}{id:Nat}{es:List D}{fa fb:Nat→Nat}{out:List World}(hr:Rp H id es fa fb out)(t:af):Rp (H++t) id es fa fb out:=
 ⟨by rw[lE (tc hr.arr)];exact hr.arr,hr.len,hr.el,fun j hj=>by rw[lE (tc (hr.ha j hj))];exact hr.ha j hj,fun j hj=>by rw[lE (tc (hr.hb j hj))];exact hr.hb j hj,hr.na,hr.nb,hr.nab,hr.nbb⟩
end Go.Ev
namespace Go.Ev
open Go
variable [Lib] [cu] [bP] [gG] [gM] [jO] [fW] [fS] [iR] [gF] [eX] [dT]
theorem Iq{m:aK}(h:m.ok)(b:Bel)(hs:b.sz):aG 0 N.eW [.t m.e,.t b.e] []=some (B (p5 m b),[]):=by
 rw[← OF]
 refine av K.pG rfl ?_
 obtain⟨h1,h2⟩:=hs
 have v:=kS h
 obtain⟨ws⟩:=b
 simp only at h1 h2
 have li:=Bt ws.length 1 24
 unfold OE
 simp only
 by_cases c:1≤ws.length∧ws.length≤24
 · have li:aG 0 N.dF [I ws.length,I 1,I 24] []=some (B true,[]):=by rw[li,decide_eq_true (by omega)]
   have e0:(ws.map World.e)[0]?=some (nth ws 0).e:=eU _ (by omega)
   have sz:=(h2 _ (ah (l:=ws) (j:=0) (by omega))).1
   have loop:=fun a b c d e=>uR (gc:=true) (dead:=[0,1,4,6,7]) (c:=K.bK) (vs:=[a,b,.bp 0 0,.bp 1 0,c,.t (tL (gn (nth ws 0).tags)),d,e,.t (.sl (ws.map World.e)),I ws.length,I 0]) (H:=[.box (aa m),.box [.t (.sl (ws.map World.e))],.box [.t (tL (nth ws 0).tags)]])
    (swS m ws (nth ws 0).tags) ws.length (fun j=> !pwB m ws (nth ws 0).tags j) (fun _ q=>q.1= .ret∧q.2.vs[4]?=some (B false))
    (.exit 0,swS m ws (nth ws 0).tags ws.length) rfl
    (fun j hj hp=>(Lz h ws _ sz h2 j hj h1).1 (by simpa using hp))
    (fun j hj hp=>by
     obtain⟨q,q1,q2,q3⟩:=(Lz h ws _ sz h2 j hj h1).2 (by simpa using hp)
     exact⟨q,q1,by rw[q2];simp,q2,q3⟩)
    (by simp (disch:=omega) only[go_sem,K.bK,swS,↓reduceIte,Nat.reduceAdd,Nat.reduceSub]) (by simp)
   rw[pw]
   have va:=zb (nth ws 0).tags
   have so:=zc (nth ws 0).tags sz
   have loop:=loop (.t m.e) (.t (Bel.e ⟨ws⟩)) (B false) .und .und
   generalize nth ws 0=x at*
   obtain⟨first,whr⟩:=x
   simp only[swS]at*
   generalize gn first=sf at*
   rcases loop with⟨e1,e2⟩ | ⟨j,⟨x,vs,H⟩,e1,e2,e3,e4⟩
   · have e2:exS aG K.nZ _=_:=e2
     simp (disch:=omega) only[go_sem,K.eW,↓reduceIte,v,li,e0,va,so,c,and_self,decide_true,Bool.true_and,e1,e2,Option.isNone,Nat.reduceAdd,Nat.reduceSub]
   · have e2:exS aG K.nZ _=_:=e2
     simp only at e3 e4
     subst e3
     simp (disch:=omega) only[go_sem,K.eW,↓reduceIte,v,li,e0,va,so,c,and_self,decide_true,Bool.true_and,e1,e2,Option.isNone,Nat.reduceAdd,Nat.reduceSub]
     simp (disch:=omega) only[go_sem,iG,e4,List.take_zero]
 · have li:aG 0 N.dF [I ws.length,I 1,I 24] []=some (B false,[]):=by rw[li,decide_eq_false (by omega)]
   simp (disch:=omega) only[go_sem,K.eW,↓reduceIte,v,li,c,decide_false,Bool.false_and,Nat.reduceAdd,Nat.reduceSub]
end Go.Ev
namespace Go.Ev
open Go
variable [Lib] [cu] [bP] [fW] [fS]
abbrev OL:Int:=2147483648
section
variable {m : aK} (h : m.ok) {fl : List Spn}
include h
end
end Go.Ev
namespace Go.Ev
open Go
theorem AT{α:Type}{f:α→α×Bool}(P:α→Prop)(hP:∀l,P l→P (f l).1):∀n l,P l→P (gE f n l)
 | 0,l,h=>h
 | n+1,l,h=>by
   unfold gE
   split
   · exact AT P hP n _ (hP l h)
   · exact hP l h
def clP(m:aK)(fl:List Spn)(y:List Int):Prop:=∀k,k<m.roads.length→∀back,0≤wy (nth m.roads k) (nth fl k) back→
 nth y ((nth m.roads k).src back).toNat+wy (nth m.roads k) (nth fl k) back≤OL→
 nth y ((nth m.roads k).dst back).toNat≤nth y ((nth m.roads k).src back).toNat+wy (nth m.roads k) (nth fl k) back
variable [Lib] [cu] [bP] [fW] [fS]
end Go.Ev
namespace Go.Ev
open Go
variable [Lib] [cu] [bP] [fW] [fS]
def agh(l:List Int):Prop:=∀x∈l,0≤x∧(x≤OL∨x=1099511627776)
theorem agh.bnd{l:List Int}(h:agh l):bnd l:=fun x hx=>by have:=h x hx;simp only[OL]at this;omega
end Go.Ev
namespace Go.Ev
open Go
variable [Lib] [cu] [bP] [gG] [gM] [fW] [fS]
theorem G8{l:List Int}{n:Int}(h:zB l n=true):∀x∈l,0≤x∧x<n:=by
 intro x hx
 simp only[zB,List.all_eq_true,List.mem_range,decide_eq_true_eq]at h
 obtain⟨j,hj⟩:=List.mem_iff_getElem?.1 hx
 have:=h j (List.getElem?_eq_some_iff.1 hj).1
 rw[b8 hj]at this
 exact⟨this.1,this.2.1⟩
theorem aaV{p:Int}{n:Int}(h0:0≤p)(h1:p<n):zB [p] n=true:=by
 simp only[zB,List.all_eq_true,List.mem_range,decide_eq_true_eq]
 intro j hj
 obtain rfl:j=0:=by simpa using hj
 exact⟨h0,h1,fun h=>absurd h (by omega)⟩
structure aaW(m:aK)(fl:List Spn)(s:Wh):Prop where
 ln:s.frm.length=m.places.length
 ti:inT s.time
 tm:agh s.frm
 lo:∀x∈s.frm,s.time≤x
 cl:clP m fl s.frm
theorem aaW.valid{m:aK}{fl:List Spn}{s:Wh}(h:aaW m fl s):KN m s=true:=by
 simp only[KN,Bool.and_eq_true,decide_eq_true_eq,List.all_eq_true,List.mem_range]
 refine⟨fun j hj=>?_,h.ln,h.ti⟩
 have a:=h.tm _ (ah hj)
 have b:=h.lo _ (ah hj)
 unfold plS
 simp only[OL]at a
 omega
end Go.Ev
namespace Go.Ev
open Go
variable [Lib] [cu] [bP] [gG] [gM] [jO] [fW] [fS] [iR] [gF] [eX] [dT]
section
variable {m : aK} (hm : m.ok) (l : List Mch) (hl : l.length ≤ 1000) (hp : ∀ x ∈ l, x.pl.length ≤ 1000000) (s : Wh) (hs : s.frm.length ≤ 1000000) (b : Bel) (hb : b.sz) (t a : Int)
include hm hl hp hs hb
end
end Go.Ev
namespace Go.Ev
open Go
variable [Lib] [cu] [bP] [gG] [gM] [fW] [fS]
end Go.Ev
namespace Go.Ev
open Go
variable [Lib] [cu] [bP]
def sh(s x:Int):Int:=if x<1099511627776 then x+s else x
def shL(s:Int)(l:List Int):List Int:=l.map (sh s)
@[simp] theorem agi (s : Int) (l : List Int) : (shL s l).length = l.length := List.length_map ..
end Go.Ev
namespace Go.Ev
open Go
variable [Lib] [cu] [bP] [gG] [gM] [jO] [fW] [fS] [iR] [gF]
end Go.Ev
namespace Go.Ev
open Go
variable [Lib] [cu] [bP] [gG] [gM] [jO] [fW] [fS] [iR] [gF] [eX] [dT]
theorem Uy{m:aK}(hm:m.ok){b:Bel}(hb:p5 m b=true)(tag:Int)(l:List Int)(a c:Int):p5 m (qJ m b tag l a c).1=true:=by
 unfold qJ
 split
 · exact hb
 · split
   · exact hb
   · split
     · exact hb
     · rename_i h
       obtain⟨ws⟩:=b
       have bv:=aaS hm (xz hb) tag l a c
       have ln:=uW m tag l a c ws ws.length
       obtain⟨h1,h2, -⟩:=gI hb
       simp only at h1 h2 h ⊢
       exact bv.bel (by omega) (by omega)
theorem Uz{m:aK}(hm:m.ok){b:Bel}(hb:p5 m b=true)(tag:Int)(l:List Int)(a c bl:Int):p5 m (qK m b tag l a c bl).1=true:=by
 unfold qK
 split
 · exact hb
 · split
   · exact hb
   · obtain⟨ws⟩:=b
     have bv:=aaT hm (xz hb) tag l a c bl
     have ln:=uX m tag l a c bl ws ws.length
     obtain⟨h1,h2, -⟩:=gI hb
     simp only at h1 h2 ⊢
     exact bv.bel (by omega) (by omega)
theorem OM{m:aK}(hm:m.ok){b:Bel}(hb:p5 m b=true)(i j t:Int):p5 m (mR m b i j t).1=true:=by
 unfold mR
 split
 · exact hb
 · split
   · exact hb
   · rename_i hij
     split
     · exact hb
     · split
       · exact hb
       · rename_i hl
         obtain⟨ws⟩:=b
         have bv:=xz hb
         obtain⟨h1,h2, -⟩:=gI hb
         simp only at h1 h2 hl hij ⊢
         have nb:=vi hm bv.wv (i:=i.toNat) (j:=j.toNat) (by omega) (by omega) t ws.length (Nat.le_refl _)
         have el:=rC i.toNat j.toNat t ws ws.length
         have tv:=BN hm bv.pr bv.f1 bv.f2 nb _ (Nat.le_refl _)
         refine BV.bel tv ?_ (Nat.not_lt.1 hl)
         have t1:∀k,1≤k→1≤(qL (iC i.toNat j.toNat t ws ws.length) k).length:=by
          intro k hk
          obtain⟨k,rfl⟩:∃k',k=k'+1:=⟨k-1,by omega⟩
          exact(uY _ _).2.2
         exact t1 _ (by omega)
theorem wG{m:aK}(hm:m.ok){n:Int}{s:BSt}(hb:p5 m s.b=true):∀k,p5 m (aA.wD m n s k).b=true
 | 0=>hb
 | k+1=>by
   have ih:=wG hm (n:=n) hb k
   simp only[aA.wD]
   generalize aA.wD m n s k=q at*
   unfold aA.kc
   simp only
   split
   · simp only
     split
     · exact OM hm ih _ _ _
     · exact ih
   · split
     · simp only
       split
       · exact Uy hm ih _ _ _ _
       · exact ih
     · simp only
       split
       · exact Uz hm ih _ _ _ _ _
       · exact ih
theorem AU{m:aK}(hm:m.ok)(h1:1≤m.places.length)(d:aA):p5 m (d.Ji m).b=true:=by
 have pb:=zh d
 have tl:=ka d.oa
 have sl:(d.lF m).1.length=d.oa:=aA.jI _ _ _
 have t0:=(d.lF m).2.dO 100
 have t9:=(d.lF m).2.dP (n:=100) (by omega)
 have pr:=xx (n:=d.oa) (by omega)
 unfold aA.Ji
 rw[BJ hm h1]
 refine BV.bel (first:=pK d.oa) ⟨pr,by omega,by omega,fun x hx=>?_,by simp⟩ (by simp) (by simp)
 rw[List.mem_singleton.1 hx]
 refine⟨List.Perm.refl _,by simp,fun w hw=>?_⟩
 simp only[gJ,List.mem_map,List.mem_range]at hw
 obtain⟨i,hi,rfl⟩:=hw
 have hi:i<(d.lF m).1.length:=by rw[sl,←tl];exact hi
 have:=qN (d.next 3).2 (n:=m.places.length) (by omega) d.oa _ (ah hi)
 exact(y5 hm this.1 this.2 ⟨by omega,by omega⟩).2
theorem DF{m:aK}(hm:m.ok)(h1:1≤m.places.length)(d:aA):p5 m (d.qM m).1=true:=wG hm (AU hm h1 d) _
end Go.Ev
namespace Go.Ev
open Go
variable [Lib] [cu] [bP] [gG] [gM] [jO] [fW] [fS] [iR] [gF] [eX] [dT] [jD] [iW]
end Go.Ev
namespace Go.Ev
open Go
variable [Lib] [cu] [bP] [gG] [gM]
def ON(l:List Int)(t:Int):Nat→List Int
 | 0=>l
 | p+1=>if t<nth (ON l t p) p then(ON l t p).set p never else ON l t p
def OO(m:aK)(w:Wh)(t:Int):Wh:=⟨t,dn m t none (ON w.frm t w.frm.length)⟩
theorem DG{H H':af}:∀(k:Nat) (d:D),(∀i∈eZ H k d,∃sz pin pin' ep es,H[i]?=some (.arr sz pin ep es)∧H'[i]?=some (.arr sz pin' ep es))→frz H' k d=frz H k d∧eZ H' k d=eZ H k d:=by
 intro k
 induction k with
 | zero=>intro d _;cases d<;>exact⟨rfl,rfl⟩
 | succ k ih=>
   intro d h
   have list:∀es:List D,(∀i∈es.flatMap (eZ H k),∃sz pin pin' ep es,H[i]?=some (.arr sz pin ep es)∧H'[i]?=some (.arr sz pin' ep es))→bW (frz H' k) es=bW (frz H k) es∧es.flatMap (eZ H' k)=es.flatMap (eZ H k):=by
    intro es
    induction es with
    | nil=>intro _;exact⟨rfl,rfl⟩
    | cons e es ihl=>
      intro he
      obtain⟨a1,a2⟩:=ih e fun i hi=>he i (by simp[hi])
      obtain⟨b1,b2⟩:=ihl fun i hi=>he i (by rw[List.flatMap_cons];exact List.mem_append_right _ hi)
      exact⟨by simp only[bW,a1,b1],by simp only[List.flatMap_cons,a2,b2]⟩
   cases d with
   | agg cs=>
     simp only[eZ]at h
     obtain⟨a1,a2⟩:=list cs h
     exact⟨by simp only[frz,a1],by simp only[eZ,a2]⟩
   | ref id ep n=>
     obtain⟨sz,pin,pin',ep',es,e1,e2⟩:=h id (by simp[eZ])
     have:∀i∈es.flatMap (eZ H k),∃sz pin pin' ep es,H[i]?=some (.arr sz pin ep es)∧H'[i]?=some (.arr sz pin' ep es):=fun i hi=>h i (by simp only[eZ,e1];exact List.mem_cons_of_mem _ hi)
     obtain⟨a1,a2⟩:=list es this
     refine⟨?_,by simp only[eZ,e1,e2,a2]⟩
     simp only[frz,fM,e1,e2]
     by_cases c:ep=ep'∧n=es.length
     · simp only[if_pos c,Option.bind_some,a1]
     · simp only[if_neg c,Option.bind_none]
   | sub id ep n lo hi=>
     obtain⟨sz,pin,pin',ep',es,e1,e2⟩:=h id (by simp[eZ])
     have:∀i∈es.flatMap (eZ H k),∃sz pin pin' ep es,H[i]?=some (.arr sz pin ep es)∧H'[i]?=some (.arr sz pin' ep es):=fun i hi=>h i (by simp only[eZ,e1];exact List.mem_cons_of_mem _ hi)
     obtain⟨a1,a2⟩:=list es this
     have:∀i∈((es.drop lo).take (hi-lo)).flatMap (eZ H k),∃sz pin pin' ep es,H[i]?=some (.arr sz pin ep es)∧H'[i]?=some (.arr sz pin' ep es):=fun i hi=>by
      obtain⟨e,he,hi⟩:=List.mem_flatMap.1 hi
      exact this i (List.mem_flatMap.2 ⟨e,List.mem_of_mem_drop (List.mem_of_mem_take he),hi⟩)
     obtain⟨b1,b2⟩:=list _ this
     refine⟨?_,by simp only[eZ,e1,e2,a2]⟩
     simp only[frz,fM,e1,e2]
     by_cases c:ep=ep'∧n=es.length
     · simp only[if_pos c,Option.bind_some,b1]
     · simp only[if_neg c,Option.bind_none]
   | _=>exact⟨rfl,rfl⟩
section
variable {bm : aK} (hm : bm.ok) {t : Int} (i : Nat) {H : af} {io iB iO n a fbi tl : Nat} {es : List D} {whr : List Wh} (e1 : H[iO]? = some (.box [.ref io 0 n])) (e2 : H[io]? = some (.arr 2 false 0 es)) (e3 : es.length = n)
 (e4:es[i]?=some (.agg [.ref a 0 tl,.ref fbi 0 whr.length])) (e5:H[fbi]?=some (.arr 2 false 0 (whs whr))) (e6:H[iB]?=some (.box (aa bm))) (hi:i<n) (hn:n≤1000000) (hl:whr.length≤1000000)
include hm e1 e2 e3 e4 e5 e6 hi hn hl
end
theorem Rp.app{H:af}{id:Nat}{es:List D}{fa fb:Nat→Nat}{out:List World}(hr:Rp H id es fa fb out)(t:af):Rp (H++t) id es fa fb out:=
 ⟨by rw[lE (tc hr.arr)];exact hr.arr,hr.len,hr.el,fun j hj=>by rw[lE (tc (hr.ha j hj))];exact hr.ha j hj,fun j hj=>by rw[lE (tc (hr.hb j hj))];exact hr.hb j hj,hr.na,hr.nb,hr.nab,hr.nbb⟩
structure SlH(H:af)(b:List World)(bm:aK)(iB iO io:Nat)(es:List D)(fa fb:Nat→Nat)(A:List Nat)(O:List World):Prop where
 h1:H[1]?=some (.box [.ref 3 0 b.length])
 h2:H[2]?=some (.box [.nil])
 hB:H[iB]?=some (.box (aa bm))
 hO:H[iO]?=some (.box [.ref io 0 O.length])
 rp:Rp H io es fa fb O
 ar:∀i∈A,∃sz pin ep es,H[i]?=some (.arr sz pin ep es)
 nA:∀i∈A,∀j,j<O.length→i≠fb j
 eA:eZ H 7 (.ref 3 0 b.length)=A
 fr:frz H 7 (.ref 3 0 b.length)=some (.sl (b.map World.e))
theorem SlH.step{H:af}{b:List World}{bm:aK}{iB iO io:Nat}{es:List D}{fa fb:Nat→Nat}{A:List Nat}{O:List World}(h:SlH H b bm iB iO io es fa fb A O){i:Nat}(hi:i<O.length)(x:World)(ht:(nth O i).tags=x.tags)
 (hw:x.whr.length=(nth O i).whr.length) (o:Obj):SlH (H.set (fb i) (.arr 2 false 0 (whs x.whr))++[o]) b bm iB iO io es fa fb A (O.set i x):=by
 have hb:=h.rp.hb i hi
 have nb:∀ {k:Nat} {cs:List D},H[k]?=some (.box cs)→(H.set (fb i) (.arr 2 false 0 (whs x.whr))++[o])[k]?=some (.box cs):=fun{k cs} hk=>by
  have ne:fb i≠k:=fun e=>by rw[e,hk]at hb;cases hb
  rw[lE (by rw[List.length_set];exact tc hk),mI ne];exact hk
 have na:∀k∈A,(H.set (fb i) (.arr 2 false 0 (whs x.whr))++[o])[k]?=H[k]?:=fun k hk=>by
  obtain⟨sz,pin,ep,es',e⟩:=h.ar k hk
  rw[lE (by rw[List.length_set];exact tc e),mI (fun e=>h.nA k hk i hi e.symm)]
 have fc:=DG (H:=H) (H':=H.set (fb i) (.arr 2 false 0 (whs x.whr))++[o]) 7 (.ref 3 0 b.length) (fun k hk=>by
  rw[h.eA]at hk
  obtain⟨sz,pin,ep,es',e⟩:=h.ar k hk
  exact⟨sz,pin,pin,ep,es',e,by rw[na k hk];exact e⟩)
 refine⟨nb h.h1,nb h.h2,nb h.hB,by rw[List.length_set];exact nb h.hO,(h.rp.merge hi x ht hw).app _,fun k hk=>?_,by rw[List.length_set];exact h.nA,by rw[fc.2];exact h.eA,by rw[fc.1];exact h.fr⟩
 obtain⟨sz,pin,ep,es',e⟩:=h.ar k hk
 exact⟨sz,pin,ep,es',by rw[na k hk];exact e⟩
def SlE(b:List World)(H:af):Prop:=H[2]?=some (.box [.ref 3 0 b.length])∧frz H 7 (.ref 3 0 b.length)=some (.sl (b.map World.e))
theorem SlH.late{H:af}{b:List World}{bm:aK}{iB iO io:Nat}{es:List D}{fa fb:Nat→Nat}{A:List Nat}{O:List World}(h:SlH H b bm iB iO io es fa fb A O)(o:Obj):SlE b (H.set 2 (.box [.ref 3 0 b.length])++[o]):=by
 have l2:=tc h.h2
 have fc:=DG (H:=H) (H':=H.set 2 (.box [.ref 3 0 b.length])++[o]) 7 (.ref 3 0 b.length) (fun k hk=>by
  rw[h.eA]at hk
  obtain⟨sz,pin,ep,es',e⟩:=h.ar k hk
  have ne:2≠k:=fun e2=>by rw[← e2,h.h2]at e;cases e
  exact⟨sz,pin,pin,ep,es',e,by rw[lE (by rw[List.length_set];exact tc e),mI ne];exact e⟩)
 exact⟨by rw[lE (by rw[List.length_set];exact l2),wq l2],by rw[fc.1];exact h.fr⟩
end Go.Ev
namespace Go.Ev
open Go
variable [Lib] [cu] [bP] [gG] [gM]
end Go.Ev
namespace Go.Ev
open Go
variable [Lib] [cu] [bP] [gG] [gM] [jO] [fW] [fS] [iR] [gF] [eX] [dT] [jD] [iW] [mZ] [lZ]
end Go.Ev
namespace Go.Ev
open Go
variable [Lib]
structure Edge where
 r:Nat
 a:Nat
 b:Nat
 t:Int
structure Lab where
 t:Int
 r:Int
 deriving DecidableEq
instance : Dat Edge := ⟨⟨0, 0, 0, 0⟩⟩
instance : Dat Lab := ⟨⟨0, 0⟩⟩
def pM(x y:Lab):Bool:=decide (x.t<y.t)||(decide (x.t=y.t)&&decide (x.r<y.r))
theorem oJ{x y:Lab}:pM x y=true↔x.t<y.t∨x.t=y.t∧x.r<y.r:=by
 simp[pM]
theorem BO{x y:Lab}:pM x y=false↔¬(x.t<y.t∨x.t=y.t∧x.r<y.r):=by
 rw[← oJ,Bool.not_eq_true]
def qP(L:List Lab)(e:Edge):Lab:=⟨(nth L e.b).t+e.t,(nth L e.b).r+1⟩
def Ir(F:Int)(u:Edge→Bool)(L:List Lab)(e:Edge):Bool:=u e&&decide ((nth L e.b).t<F)&&pM (qP L e) (nth L e.a)
def MY(F:Int)(u:Edge→Bool)(L:List Lab)(e:Edge):List Lab:=if Ir F u L e then L.set e.a (qP L e)else L
def wH(F:Int)(u:Edge→Bool)(E:List Edge)(L:List Lab)(c:Bool):Nat→List Lab×Bool
 | 0=>(L,c)
 | j+1=>(MY F u (wH F u E L c j).1 (nth E j),(wH F u E L c j).2||Ir F u (wH F u E L c j).1 (nth E j))
structure Is(F:Int)(n:Nat)(L:List Lab):Prop where
 l:L.length=n
 t0:∀p,p<n→0≤(nth L p).t
 t1:∀p,p<n→(nth L p).t≤F
 r0:∀p,p<n→0≤(nth L p).r
 r1:∀p,p<n→(nth L p).r≤(nth L p).t
def Edge.ok(n:Nat)(e:Edge):Prop:=e.a<n∧e.b<n∧1≤e.t∧e.t≤1000000
def wL(F:Int)(x:Lab):Nat:=(x.t*(F+1)+x.r).toNat
def OP(F:Int)(L:List Lab):Nat:=(L.map (wL F)).sum
theorem LH(f:Lab→Nat):∀(L:List Lab) (i:Nat) (x:Lab),i<L.length→f x<f (nth L i)→((L.set i x).map f).sum<(L.map f).sum
 | [],i,x,h,_=>absurd h (by simp)
 | y::L,0,x,_,h=>by
   simp only[List.set_cons_zero,List.map_cons,List.sum_cons]
   have:nth (y::L) 0=y:=rfl
   rw[this]at h
   omega
 | y::L,i+1,x,h,h2=>by
   simp only[List.set_cons_succ,List.map_cons,List.sum_cons]
   have e:nth (y::L) (i+1)=nth L i:=rfl
   rw[e]at h2
   have:=LH f L i x (by simpa using h) h2
   omega
theorem pN{L:List Lab}{i j:Nat}{a:Lab}(h:j≠i):nth (L.set j a) i=nth L i:=by
 unfold nth
 simp only[List.getD_eq_getElem?_getD,List.getElem?_set_ne h]
theorem tE{L:List Lab}{i:Nat}{a:Lab}(h:i<L.length):nth (L.set i a) i=a:=b8 (List.getElem?_set_self h)
theorem agj{F:Int}{x y:Lab}(h:pM x y=true)(h0:0≤x.t)(h1:x.t≤F)(h2:0≤x.r)(h3:x.r≤x.t)(h4:0≤y.r):wL F x<wL F y:=by
 unfold wL
 rw[oJ]at h
 have p0:0≤x.t*(F+1):=Int.mul_nonneg h0 (by omega)
 have key:x.t*(F+1)+x.r<y.t*(F+1)+y.r:=by
  rcases h with h | ⟨h,h'⟩
  · have:(x.t+1)*(F+1)≤y.t*(F+1):=Int.mul_le_mul_of_nonneg_right (by omega) (by omega)
    rw[Int.add_mul]at this
    omega
  · rw[h];omega
 omega
theorem QU{F:Int}{n:Nat}{u:Edge→Bool}{L:List Lab}(h:Is F n L){e:Edge}(he:e.ok n):Is F n (MY F u L e)∧(Ir F u L e=true→OP F (MY F u L e)<OP F L):=by
 unfold MY
 cases hc:Ir F u L e with
 | false=>exact⟨by simpa using h,by simp⟩
 | true=>
   simp only[if_true]
   unfold Ir at hc
   simp only[Bool.and_eq_true,decide_eq_true_eq]at hc
   obtain⟨⟨-,c2⟩,c3⟩:=hc
   obtain⟨ha,hb,ht,ht2⟩:=he
   have q:=c3
   rw[oJ]at q
   have b0:=h.t0 _ hb
   have b1:=h.r0 _ hb
   have b2:=h.r1 _ hb
   have a1:=h.t1 _ ha
   have a0:=h.r0 _ ha
   have ct:(qP L e).t=(nth L e.b).t+e.t:=rfl
   have cr:(qP L e).r=(nth L e.b).r+1:=rfl
   refine⟨⟨by rw[List.length_set];exact h.l,?_,?_,?_,?_⟩,fun _=>LH (wL F) L e.a _ (by rw[h.l];exact ha) (agj c3 (by omega) (by omega) (by omega) (by omega) a0)⟩
   all_goals
    intro p hp
    by_cases c:p=e.a
    · subst c
      rw[tE (by rw[h.l];exact ha)]
      omega
    · rw[pN (fun h=>c h.symm)]
      first | exact h.t0 p hp | exact h.t1 p hp | exact h.r0 p hp | exact h.r1 p hp
theorem AV{F:Int}{n:Nat}{u:Edge→Bool}{E:List Edge}(hE:∀e∈E,e.ok n){L:List Lab}(h:Is F n L):∀j,j≤E.length→Is F n (wH F u E L false j).1∧OP F (wH F u E L false j).1≤OP F L∧
 ((wH F u E L false j).2=true→OP F (wH F u E L false j).1<OP F L)∧((wH F u E L false j).2=false→(wH F u E L false j).1=L∧∀i,i<j→Ir F u L (nth E i)=false)
 | 0,_=>⟨h,Nat.le_refl _,by simp[wH],fun _=>⟨rfl,fun i hi=>absurd hi (Nat.not_lt_zero _)⟩⟩
 | j+1,hj=>by
   obtain⟨a,b,c,d⟩:=AV hE h j (by omega)
   have eo:=hE _ (ah (show j<E.length by omega))
   obtain⟨f,g⟩:=QU (u:=u) a eo
   simp only[wH]
   cases hc:Ir F u (wH F u E L false j).1 (nth E j)with
   | true=>
     have:=g hc
     refine⟨f,by omega,fun _=>by omega,by simp⟩
   | false=>
     have e:MY F u (wH F u E L false j).1 (nth E j)=(wH F u E L false j).1:=by unfold MY;rw[hc];rfl
     rw[e,Bool.or_false]
     refine⟨a,b,c,fun h2=>?_⟩
     obtain⟨d1,d2⟩:=d h2
     refine⟨d1,fun i hi=>?_⟩
     by_cases ci:i=j
     · rw[ci,←d1];exact hc
     · exact d2 i (by omega)
structure QV(F:Int)(n:Nat)(E:List Edge)(u:Edge→Bool)(Z:Nat→Bool)(L:List Lab):Prop extends Is F n L where
 z:∀p,p<n→Z p=true→nth L p=⟨0,0⟩
 w:∀p,p<n→(nth L p).t<F→Z p=true∨∃e∈E,u e=true∧e.a=p∧(nth L e.b).t<F∧pM (nth L p) (qP L e)=false
theorem aaX{F:Int}{n:Nat}{u:Edge→Bool}{E:List Edge}{Z:Nat→Bool}(hE:∀e∈E,e.ok n)(hz:∀e∈E,u e=true→Z e.a=false){L:List Lab}(h:QV F n E u Z L){e:Edge}(he:e∈E):QV F n E u Z (MY F u L e):=by
 have I:=(QU (u:=u) h.toIs (hE e he)).1
 refine⟨I,?_,?_⟩
 all_goals unfold MY at I ⊢
 all_goals cases hc:Ir F u L e with
  | false=>
    simp only[Bool.false_eq_true,if_false]
    first | exact h.z | exact h.w
  | true=>
    rw[hc]at I
    simp only[if_true]at I ⊢
    unfold Ir at hc
    simp only[Bool.and_eq_true,decide_eq_true_eq]at hc
    obtain⟨⟨c1,c2⟩,c3⟩:=hc
    obtain⟨ha,hb,ht,ht2⟩:=hE e he
    have ll:=h.l
    intro p hp
    rw[oJ]at c3
    have ct:(qP L e).t=(nth L e.b).t+e.t:=rfl
    have cr:(qP L e).r=(nth L e.b).r+1:=rfl
    first
    | intro hZ
      by_cases c:p=e.a
      · subst c;rw[hz e he c1]at hZ;cases hZ
      · rw[pN (fun h=>c h.symm)];exact h.z p hp hZ
    | intro hF
      have dec:∀q,q<n→(nth (L.set e.a (qP L e)) q).t≤(nth L q).t∧((nth (L.set e.a (qP L e)) q).t=(nth L q).t→(nth (L.set e.a (qP L e)) q).r≤(nth L q).r):=by
       intro q hq
       by_cases c:q=e.a
       · subst c
         rw[tE (by omega)]
         refine⟨by omega,fun h=>by omega⟩
       · rw[pN (fun h=>c h.symm)];exact⟨Int.le_refl _,fun _=>Int.le_refl _⟩
      have cand:∀f:Edge,f.b<n→pM (qP L f) (qP (L.set e.a (qP L e)) f)=false:=by
       intro f hf
       have:=dec f.b hf
       rw[BO]
       unfold qP at*
       simp only at*
       omega
      have ne:e.b≠e.a∨e.b=e.a:=by omega
      by_cases c:p=e.a
      · right
        subst c
        have hF':=hF
        rw[tE (by omega)]at hF' ⊢
        have db:=dec e.b hb
        refine⟨e,he,c1,rfl,by omega,?_⟩
        have:=cand e hb
        exact this
      · rw[pN (fun h=>c h.symm)]at hF ⊢
        rcases h.w p hp hF with h1 | ⟨f,hf,f1,f2,f3,f4⟩
        · exact .inl h1
        · right
          have fb:=(hE f hf).2.1
          have db:=dec f.b fb
          have cf:=cand f fb
          refine⟨f,hf,f1,f2,by omega,?_⟩
          rw[BO]at f4 cf ⊢
          omega
theorem LI{F:Int}{n:Nat}{u:Edge→Bool}{E:List Edge}{Z:Nat→Bool}(hE:∀e∈E,e.ok n)(hz:∀e∈E,u e=true→Z e.a=false){L:List Lab}(h:QV F n E u Z L)(c:Bool):∀j,j≤E.length→QV F n E u Z (wH F u E L c j).1
 | 0,_=>h
 | j+1,hj=>aaX hE hz (LI hE hz h c j (by omega)) (ah (by omega))
theorem AX{α:Type}(f:α→α×Bool)(mes:α→Nat)(P Q:α→Prop)(h1:∀l,P l→P (f l).1∧((f l).2=true→mes (f l).1<mes l))(h2:∀l,P l→(f l).2=false→Q (f l).1):∀(k:Nat) (l:α),P l→mes l<k→Q (gE f k l)
 | 0,l,_,h=>absurd h (Nat.not_lt_zero _)
 | k+1,l,hp,hm=>by
   obtain⟨a,b⟩:=h1 l hp
   unfold gE
   cases hc:(f l).2 with
   | true=>simp only[if_true];exact AX f mes P Q h1 h2 k _ a (by have:=b hc;omega)
   | false=>simp only[Bool.false_eq_true,if_false];exact h2 l hp hc
structure OQ(F:Int)(n:Nat)(E:List Edge)(u:Edge→Bool)(Z:Nat→Bool)(L:List Lab):Prop extends QV F n E u Z L where
 fx:∀e∈E,Ir F u L e=false
def LJ(F:Int)(u:Edge→Bool)(E:List Edge)(L:List Lab):List Lab:=gE (fun L=>wH F u E L false E.length) (OP F L+1) L
theorem OR{F:Int}{n:Nat}{u:Edge→Bool}{E:List Edge}{Z:Nat→Bool}(hE:∀e∈E,e.ok n)(hz:∀e∈E,u e=true→Z e.a=false){L:List Lab}(h:QV F n E u Z L):OQ F n E u Z (LJ F u E L):=by
 refine AX _ (OP F) (QV F n E u Z) _ (fun l hl=>⟨LI hE hz hl _ _ (Nat.le_refl _),(AV hE hl.toIs _ (Nat.le_refl _)).2.2.1⟩) (fun l hl hc=>?_) _ _ h (Nat.lt_succ_self _)
 obtain⟨-, -, -,d⟩:=AV (u:=u) hE hl.toIs _ (Nat.le_refl _)
 obtain⟨d1,d2⟩:=d hc
 refine⟨LI hE hz hl _ _ (Nat.le_refl _),fun e he=>?_⟩
 obtain⟨i,hi,rfl⟩:=List.getElem_of_mem he
 have:=d2 i hi
 rw[b8 (List.getElem?_eq_getElem hi)]at this
 rw[d1]
 exact this
theorem OQ.eqn{F:Int}{n:Nat}{E:List Edge}{u:Edge→Bool}{Z:Nat→Bool}{L:List Lab}(h:OQ F n E u Z L)(hE:∀e∈E,e.ok n){p:Nat}(hp:p<n)(hf:(nth L p).t<F)(hz:Z p=false):∃e∈E,u e=true∧e.a=p∧(nth L e.b).t<F∧nth L p=qP L e:=by
 rcases h.w p hp hf with h1 | ⟨e,he,e1,e2,e3,e4⟩
 · rw[hz]at h1;cases h1
 · refine⟨e,he,e1,e2,e3,?_⟩
   have fx:=h.fx e he
   unfold Ir at fx
   rw[e1,decide_eq_true e3,e2]at fx
   simp only[Bool.true_and]at fx
   rw[BO]at fx e4
   have:∀x y:Lab,x.t=y.t→x.r=y.r→x=y:=fun x y a b=>by
    cases x;cases y;simp only at a b;rw[a,b]
   exact this _ _ (by omega) (by omega)
theorem LK{p q:Nat→Bool}(h:∀x,p x=true→q x=true){l:List Nat}{x:Nat}(hx:x∈l)(h1:q x=true)(h2:p x=false):l.countP p<l.countP q:=by
 have le:∀l:List Nat,l.countP p≤l.countP q:=fun l=>List.countP_mono_left (fun x _ hp=>h x hp)
 induction l with
 | nil=>cases hx
 | cons a l ih=>
   rw[List.countP_cons,List.countP_cons]
   have:=le l
   rcases List.mem_cons.1 hx with rfl | hx
   · rw[h1,h2];simp;omega
   · have:=ih hx
     cases hp:p a with
     | true=>rw[h a hp];simp;omega
     | false=>simp;omega
theorem OQ.time{F:Int}{n:Nat}{E:List Edge}{u:Edge→Bool}{Z:Nat→Bool}{L:List Lab}(h:OQ F n E u Z L)(hE:∀e∈E,e.ok n){p:Nat}(hp:p<n)(hf:(nth L p).t<F):(nth L p).t≤(n:Int)*1000000:=by
 have key:∀(k:Nat) (p:Nat),p<n→(nth L p).t.toNat=k→(nth L p).t<F→(nth L p).t≤((List.range n).countP (fun x=>pM (nth L x) (nth L p)):Int)*1000000:=by
  intro k
  induction k using Nat.strongRecOn with
  | ind k ih=>
    intro p hp hk hf
    by_cases hz:Z p=true
    · rw[h.z p hp hz]
      have:0≤((List.range n).countP (fun x=>pM (nth L x) ⟨0,0⟩):Int)*1000000:=Int.mul_nonneg (Int.natCast_nonneg _) (by omega)
      exact this
    · obtain⟨e,he,e1,e2,e3,e4⟩:=h.eqn hE hp hf (by simpa using hz)
      obtain⟨o1,o2,o3,o4⟩:=hE e he
      have ct:(nth L p).t=(nth L e.b).t+e.t:=by rw[e4];rfl
      have cr:(nth L p).r=(nth L e.b).r+1:=by rw[e4];rfl
      have b0:=h.t0 _ o2
      have:=ih (nth L e.b).t.toNat (by omega) e.b o2 rfl e3
      have lt:(List.range n).countP (fun x=>pM (nth L x) (nth L e.b))<(List.range n).countP (fun x=>pM (nth L x) (nth L p)):=by
       refine LK (fun x hx=>?_) (List.mem_range.2 o2) ?_ ?_
       · rw[oJ]at hx ⊢;omega
       · rw[oJ];omega
       · rw[BO];omega
      generalize (List.range n).countP (fun x=>pM (nth L x) (nth L e.b))=c1 at*
      generalize (List.range n).countP (fun x=>pM (nth L x) (nth L p))=c2 at*
      omega
 have a:=key _ p hp rfl hf
 have b:(List.range n).countP (fun x=>pM (nth L x) (nth L p))≤n:=by
  have:=List.countP_le_length (p:=fun x=>pM (nth L x) (nth L p)) (l:=List.range n)
  simpa using this
 generalize (List.range n).countP (fun x=>pM (nth L x) (nth L p))=c at*
 omega
def vj(u:Edge→Bool)(L:List Lab)(at':Nat)(e:Edge):Bool:=decide (e.a=at')&&u e&&decide (nth L e.b=⟨(nth L at').t-e.t,(nth L at').r-1⟩)
def LL(u:Edge→Bool)(E:List Edge)(L:List Lab)(at':Nat):Option Edge:=E.find? (vj u L at')
def oc(Z:Nat→Bool)(u:Edge→Bool)(E:List Edge)(L:List Lab):Nat→Nat→List Edge
 | 0,_=>[]
 | k+1,p=>if Z p then []else match LL u E L p with
   | some e=>e::oc Z u E L k e.b
   | none=>[]
def QW:Nat→List Edge→Prop
 | _,[]=>True
 | p,e::l=>e.a=p∧QW e.b l
def ahw:Nat→List Edge→Nat
 | p,[]=>p
 | _,e::l=>ahw e.b l
theorem rE{F:Int}{n:Nat}{E:List Edge}{u:Edge→Bool}{Z:Nat→Bool}{L:List Lab}(h:OQ F n E u Z L)(hE:∀e∈E,e.ok n){p:Nat}(hp:p<n)(hf:(nth L p).t<F)(hz:Z p=false):
 ∃e,LL u E L p=some e∧e∈E∧u e=true∧e.a=p∧(nth L e.b).t<F∧(nth L e.b).t=(nth L p).t-e.t∧(nth L e.b).r=(nth L p).r-1:=by
 obtain⟨e,he,e1,e2,e3,e4⟩:=h.eqn hE hp hf hz
 have hs:vj u L p e=true:=by
  unfold vj
  rw[e1,e2,decide_eq_true rfl]
  have:nth L e.b=⟨(nth L p).t-e.t,(nth L p).r-1⟩:=by
   rw[e4]
   unfold qP
   simp only[Int.add_sub_cancel]
  rw[decide_eq_true this]
  rfl
 cases hc:LL u E L p with
 | none=>
   have:=List.find?_eq_none.1 hc e he
   exact absurd hs this
 | some f=>
   have f1:=List.mem_of_find?_eq_some hc
   have f2:=List.find?_some hc
   unfold vj at f2
   simp only[Bool.and_eq_true,decide_eq_true_eq]at f2
   obtain⟨⟨f3,f4⟩,f5⟩:=f2
   have ft:=(hE f f1).2.2.1
   refine⟨f,rfl,f1,f4,f3,?_,by rw[f5],by rw[f5]⟩
   rw[f5]
   simp only
   omega
structure QX(F:Int)(n:Nat)(E:List Edge)(u:Edge→Bool)(Z:Nat→Bool)(L:List Lab)(p:Nat)(l:List Edge):Prop where
 mem:∀e∈l,e∈E∧u e=true∧e.b<n
 chain:QW p l
 fin:Z (ahw p l)=true
 sum:(l.map Edge.t).sum=(nth L p).t
 low:∀e∈l,(nth L e.b).r<(nth L p).r
 dis:(l.map Edge.b).Nodup
theorem LM{F:Int}{n:Nat}{E:List Edge}{u:Edge→Bool}{Z:Nat→Bool}{L:List Lab}(h:OQ F n E u Z L)(hE:∀e∈E,e.ok n):∀(k p:Nat),p<n→(nth L p).t<F→(nth L p).r.toNat≤k→QX F n E u Z L p (oc Z u E L k p)
 | 0,p,hp,hf,hk=>by
   have r0:=h.r0 p hp
   by_cases hz:Z p=true
   · refine⟨by simp[oc],trivial,hz,?_,by simp[oc],by simp[oc]⟩
     rw[h.z p hp hz];rfl
   · obtain⟨e,_,e1,_,_,_,_,e5⟩:=rE h hE hp hf (by simpa using hz)
     have:=h.r0 e.b (hE e e1).2.1
     omega
 | k+1,p,hp,hf,hk=>by
   unfold oc
   by_cases hz:Z p=true
   · rw[if_pos hz]
     refine⟨by simp,trivial,hz,?_,by simp,by simp⟩
     rw[h.z p hp hz];rfl
   · rw[if_neg hz]
     obtain⟨e,e0,e1,e2,e3,e4,e5,e6⟩:=rE h hE hp hf (by simpa using hz)
     have eb:=(hE e e1).2.1
     have br:=h.r0 e.b eb
     have i:=LM h hE k e.b eb e4 (by omega)
     rw[e0]
     simp only
     refine⟨?_,⟨e3,i.chain⟩,i.fin,?_,?_,?_⟩
     · intro f hf'
       rcases List.mem_cons.1 hf' with rfl | hf'
       · exact⟨e1,e2,eb⟩
       · exact i.mem f hf'
     · rw[List.map_cons,List.sum_cons,i.sum];omega
     · intro f hf'
       rcases List.mem_cons.1 hf' with rfl | hf'
       · omega
       · have:=i.low f hf';omega
     · rw[List.map_cons,List.nodup_cons]
       refine⟨fun hm=>?_,i.dis⟩
       obtain⟨f,f1,f2⟩:=List.mem_map.1 hm
       have:=i.low f f1
       rw[f2]at this
       omega
end Go.Ev
namespace Go.Ev.N
def It:Nat:=334
def Jj:Nat:=335
def Jk:Nat:=336
def UA:Nat:=337
def Iu:Nat:=338
def UB:Nat:=339
def UC:Nat:=340
def Xz:Nat:=341
def UD:Nat:=342
def XA:Nat:=343
def XB:Nat:=344
def adD:Nat:=345
def MZ:Nat:=346
def UE:Nat:=347
def XC:Nat:=348
def XD:Nat:=349
def LN:Nat:=350
def OS:Nat:=351
def QY:Nat:=352
def QZ:Nat:=353
def UF:Nat:=354
def M0:Nat:=355
def XE:Nat:=356
def XF:Nat:=357
def OT:Nat:=358
def Q0:Nat:=359
def UG:Nat:=360
def XG:Nat:=361
def UH:Nat:=362
def OU:Nat:=363
def UI:Nat:=364
def XH:Nat:=365
def XI:Nat:=366
def XJ:Nat:=367
def XK:Nat:=368
def Iv:Nat:=369
def od:Nat:=370
def tT:Nat:=371
def OV:Nat:=372
def p7:Nat:=373
def OW:Nat:=374
def OX:Nat:=375
def UJ:Nat:=376
def UK:Nat:=377
def M1:Nat:=378
def oN:Nat:=379
def rF:Nat:=380
def LO:Nat:=381
def OY:Nat:=382
def LP:Nat:=383
end Go.Ev.N
namespace Go.Ev.N
def OZ:Nat:=384
def M3:Nat:=385
def LQ:Nat:=386
def M4:Nat:=387
def LR:Nat:=388
def UL:Nat:=389
def UM:Nat:=390
def XL:Nat:=391
def Jl:Nat:=392
def UN:Nat:=393
def UO:Nat:=394
def Jm:Nat:=395
def XM:Nat:=396
def Jn:Nat:=397
def Iw:Nat:=398
def aaY:Nat:=399
def XN:Nat:=400
def XO:Nat:=401
def LS:Nat:=402
def XP:Nat:=403
def aaZ:Nat:=404
def XQ:Nat:=405
def XR:Nat:=406
def aa0:Nat:=407
def G9:Nat:=408
def Hc:Nat:=409
def XT:Nat:=410
def aa1:Nat:=411
def Q1:Nat:=412
def Cj:Nat:=413
def aa2:Nat:=414
def AY:Nat:=415
end Go.Ev.N
namespace Go.Ev.N
def DH:Nat:=416
def Ec:Nat:=417
def Ed:Nat:=418
def bw:Nat:=419
def fX:Nat:=420
def cN:Nat:=421
def cQ:Nat:=422
def Q2:Nat:=423
def dj:Nat:=424
def dN:Nat:=425
def UP:Nat:=426
def bH:Nat:=427
def bL:Nat:=428
def bc:Nat:=429
def aM:Nat:=430
def cH:Nat:=431
def aa3:Nat:=432
def aa4:Nat:=433
def XU:Nat:=434
def cY:Nat:=435
def fv:Nat:=436
def cZ:Nat:=437
def cI:Nat:=438
def UQ:Nat:=439
def UR:Nat:=440
def Q3:Nat:=441
def US:Nat:=442
def fY:Nat:=443
def bz:Nat:=444
def XV:Nat:=445
def O0:Nat:=446
def XW:Nat:=447
def UT:Nat:=448
def XX:Nat:=449
def UU:Nat:=450
def iD:Nat:=451
def kI:Nat:=452
def aa5:Nat:=453
def bg:Nat:=454
def aQ:Nat:=455
def Q4:Nat:=456
def aa6:Nat:=457
def im:Nat:=458
def fQ:Nat:=459
def bI:Nat:=460
def ay:Nat:=461
def cR:Nat:=462
def gL:Nat:=463
def bN:Nat:=464
def Q5:Nat:=465
def cm:Nat:=466
def ak:Nat:=467
def az:Nat:=468
def bM:Nat:=469
def ju:Nat:=470
def dD:Nat:=471
end Go.Ev.N
namespace Go.Ev.K
open Go.Ev
def fZ:C:=(.seq (.ite [m v15,m v9,u (.ln l0),u (.bin .lss l2 l0)] [] 0 .skip (.exit 0)) (.seq (.blk 1 (.ite [m v11,m v9,m v15,a 1 l1 l0,g l0,u (.ca N.gw 0 [] [.l 4,.l 0]),u (.un .not l0)] [] 0 (.seq (.reg [w 1 (.mv (.b false))] []) .ret) .skip)) (.reg [m v15,u (.bin .add l0 (.i 1)),w 15 (.mv l0)] [])))
def jJ:C:= .loop true [0,1,2,3,4,5,6,7,8,10,12,14,16] K.fZ
def ga:C:=(.seq (.ite [m v16,m v13,u (.ln l0),u (.bin .lss l2 l0)] [] 0 .skip (.exit 2)) (.seq (.blk 3 (.ite [m v9,m v13,m v16,a 1 l1 l0,g l0,u (.ca N.gw 0 [] [.l 4,.l 0]),u (.un .not l0)] [] 0 (.seq (.reg [w 1 (.mv (.b false))] []) .ret) .skip)) (.reg [m v16,u (.bin .add l0 (.i 1)),w 16 (.mv l0)] [])))
def jK:C:= .loop true [0,1,2,3,4,5,6,7,8,10,11,12,14,15] K.ga
def bw:Fn:={ nargs:=1,vars:=[0,2,3,4,5,6,7,8,9,10,11,12,13,14,15,16,17],body:=(.seq (.reg [w 1 (.mv (.b false))] []) (.seq (.ite [m v0,u (.ca N.gY 0 [] [.l 0]),u (.un .not l0)] [] 0 (.seq (.reg [u (.ca N.fX 0 [] []),w 1 (.mv l0)] []) .ret) .skip) (.seq (.reg [m v0,u (.ca N.jh 0 [] [.l 0]),w 2 (.mv l0)] []) (.seq (.reg [m v2,u (.ca N.cL 0 [] [.l 0]),w 3 (.al [.nil,.nil] []),u (.st l0 l1 2 [])] []) (.seq (.reg [w 4 (.al [.nil] []),w 5 (.al [.nil,.nil,.nil,.t (.int .i64 (0))] []),m v2,h 2 v3,u (.ca N.b5 0 [] [.l 1,.l 0]),m v2,h 2 v3,u (.ca N.cN 0 [] [.l 1,.l 0]),u (.st l7 l3 1 []),u (.st l7 l1 4 [])] [(0,5),(0,8),(1,5),(1,8),(6,2)]) (.seq (.reg [h 1 v4,u (.ca N.jk 0 [] [.l 0]),m v2,u (.ca N.ax 0 [] [.l 0,.i 60]),u (.bin .add l2 l0),m v2,u (.ca N.ax 0 [] [.l 0,.i 60]),w 6 (.mv l2),w 7 (.mv l1)] []) (.seq (.reg [h 4 v5,w 8 (.al [.nil,.nil,.nil,.t (.int .i64 (0))] []),u (.st l0 l1 4 [])] []) (.seq (.reg [f 3 v8,g l0,m v2,u (.ca N.ax 0 [] [.l 0,.i 500]),u (.bin .add l2 l0),f 3 v8,u (.st l0 l1 1 [])] [(1,4)]) (.seq (.reg [h 2 v3,h 4 v5,h 1 v4,m v6,m v7,u (.ca N.bH 0 [] [.l 4,.l 3,.l 2,.l 1,.l 0]),m l0,u (.ex l0 0),u (.ex l1 1),w 9 (.mv l1),w 10 (.mv l1)] []) (.seq (.reg [h 2 v3,h 4 v5,h 1 v4,m v6,m v7,m v2,u (.ca N.ax 0 [] [.l 0,.i 100]),u (.bin .add l2 l0),u (.ca N.bH 0 [] [.l 7,.l 6,.l 5,.l 4,.l 0]),m l0,u (.ex l0 0),u (.ex l1 1),w 11 (.mv l1),w 12 (.mv l1)] [(0,7),(1,7),(2,7)]) (.seq (.reg [h 2 v3,h 4 v8,h 1 v4,m v6,m v7,u (.ca N.bH 0 [] [.l 4,.l 3,.l 2,.l 1,.l 0]),m l0,u (.ex l0 0),u (.ex l1 1),w 13 (.mv l1),w 14 (.mv l1)] []) (.seq (.ite [m v10,u (.bin .neq l0 (.i 0)),m l0,y 0 false (.mv v12),y 1 false (.bin .neq l0 (.i 0)),u (.pk l2 (.b true) l0),m l0,y 0 false (.mv v14),y 1 false (.bin .neq l0 (.i 0)),u (.pk l2 (.b true) l0)] [] 0 (.seq (.reg [w 1 (.mv (.b false))] []) .ret) .skip) (.seq (.seq (.reg [w 15 (.mv (.i 0))] []) (.blk 0 K.jJ)) (.seq (.seq (.reg [w 16 (.mv (.i 0))] []) (.blk 2 K.jK)) (.seq (.reg [u (.ca N.fX 0 [] []),w 1 (.mv l0)] []) .ret))))))))))))))),res:=[(1,none)]}
def fX:Fn:={ nargs:=0,vars:=[0,1,2,3,4,5,7,9,10,11,12,13],body:=(.seq (.reg [w 0 (.mv (.b false))] []) (.seq (.reg [u (.bd [.t (.int .i64 (0)),.t (.int .i64 (0))] [(0,1,.i 1),(1,1,.i 1)]),u (.bd [.t (.int .i64 (0)),.t (.int .i64 (0)),.t (.int .i64 (0)),.t (.int .i64 (0)),.t (.bool false),.t (.bool false),.t (.int .i64 (0)),.t (.int .i64 (0)),.t (.int .i64 (0)),.t (.int .i64 (0))] [(2,1,.i 12),(3,1,.i 1),(4,1,.b true),(6,2,.l 0)]),w 1 (.al [.t (.int .i64 (0)),.t (.int .i64 (0)),.t (.int .i64 (0)),.t (.int .i64 (0)),.t (.bool false),.t (.bool false),.t (.int .i64 (0)),.t (.int .i64 (0)),.t (.int .i64 (0)),.t (.int .i64 (0))] []),u (.st l0 l1 10 [])] []) (.seq (.reg [w 2 (.al [.t (.int .i64 (0)),.t (.int .i64 (0)),.t (.int .i64 (0)),.t (.int .i64 (0)),.t (.bool false),.t (.bool false),.t (.int .i64 (0)),.t (.int .i64 (0)),.t (.int .i64 (0)),.t (.int .i64 (0))] []),w 3 (.al [.t (.int .i64 (0)),.t (.int .i64 (0)),.t (.int .i64 (0)),.t (.int .i64 (0)),.t (.bool false),.t (.bool false),.t (.int .i64 (0)),.t (.int .i64 (0)),.t (.int .i64 (0)),.t (.int .i64 (0))] []),h 10 v1,h 10 v1,u (.st l3 l1 10 []),u (.st l3 l1 10 [])] [(3,5)]) (.seq (.reg [f 1 v2,u (.st l0 (.i 1) 1 []),f 0 v3,u (.st l0 (.i 1) 1 []),f 1 v3,u (.st l0 (.i 2) 1 [])] []) (.seq (.reg [u (.bd [.t (.int .i64 (0)),.t (.bool false)] [(1,1,.b true)]),u (.bd [.t (.int .i64 (0)),.t (.bool false)] []),u (.bd [.t (.int .i64 (0)),.t (.bool false)] [(1,1,.b true)]),u (.bs [.l 2,.l 1,.l 0] 2),h 10 v2,h 10 v3,u (.bs [.l 1,.l 0] 10),u (.bd [.nil,.nil] [(0,1,.l 3),(1,1,.l 0)]),w 4 (.al [.nil,.nil] []),u (.st l0 l1 2 [])] []) (.seq (.reg [h 2 v4,u (.bs [.i 4] 1),u (.bs [.i 1] 1),u (.ca N.dt 0 [] [.l 2,.l 1,.l 0,.i 0]),m l0,u (.ex l0 0),u (.ex l1 1),w 5 (.al [.nil] []),u (.st l0 l2 1 []),m l2] []) (.seq (.reg [u (.bd [.nil,.nil,.nil,.t (.int .i64 (0))] [(3,1,.i 1000)]),w 6 (.al [.nil,.nil,.nil,.t (.int .i64 (0))] []),u (.st l0 l1 4 [])] []) (.seq (.reg [h 2 v4,h 4 v6,h 1 v5,u (.bs [.i 1] 1),u (.ca N.cQ 0 [] [.l 3,.l 2,.l 1,.l 0,.c (.nil),.c (.nil),.i 5,.i 0]),m l0,u (.ex l0 0),u (.ex l1 1),u (.ex l2 2),u (.al [.nil,.nil] []),u (.st l0 l3 2 []),w 7 (.mv l3),w 8 (.mv l3)] []) (.seq (.reg [h 2 v4,h 4 v6,h 1 v5,u (.bs [.i 1] 1),u (.bs [.i 1] 1),u (.ca N.cQ 0 [] [.l 4,.l 3,.l 2,.l 1,.c (.nil),.l 0,.i 5,.i 0]),m l0,u (.ex l0 0),u (.ex l1 1),u (.ex l2 2),w 9 (.al [.nil,.nil] []),u (.st l0 l3 2 []),w 10 (.mv l3),w 11 (.mv l3)] []) (.seq (.reg [m v8,u (.bin .eql l0 (.i 46)),m l0,y 0 true (.mv v7),y 1 true (.ln l0),y 2 true (.bin .eql l0 (.i 1)),u (.pk l3 l0 (.b false)),m l0,y 0 true (.mv v7),y 1 true (.ia l0 (.i 0) 1),y 2 true (.ld l0 1 false),y 3 true (.bin .eql l0 (.i 1)),u (.pk l4 l0 (.b false)),m l0,y 0 true (.mv v11),y 1 true (.bin .eql l0 (.i 0)),u (.pk l2 l0 (.b false)),m l0,y 0 true (.mv v10),y 1 true (.ln l0),y 2 true (.bin .eql l0 (.i 1)),u (.pk l3 l0 (.b false)),m l0,y 0 true (.fa v9 1),y 1 true (.ld l0 1 false),y 2 true (.ln l0),y 3 true (.bin .eql l0 (.i 2)),u (.pk l4 l0 (.b false)),m l0,y 0 true (.fa v9 1),y 1 true (.ld l0 1 false),y 2 true (.ia l0 (.i 1) 10),y 3 true (.fa l0 5),y 4 true (.ld l0 1 false),u (.pk l5 l0 (.b false)),m l0,y 0 true (.ld v4 2 true),y 1 true (.ld v9 2 true),y 2 true (.ld v6 4 true),y 3 true (.ca N.dN 0 [] [.l 2,.l 1,.l 0]),y 4 true (.ln l0),y 5 true (.bin .eql l0 (.i 1)),u (.pk l6 l0 (.b false)),w 0 (.mv l0)] []) .ret)))))))))),res:=[(0,none)]}
def cN:Fn:={ nargs:=2,vars:=[0,1,3,4,5],body:=(.seq (.reg [w 2 (.bx v1 2),w 3 (.al [.nil,.nil,.nil,.t (.int .i64 (0))] [])] []) (.seq (.reg [m v0,u (.bs [.i 600,.i 100,.i 60,.i 1000,.i 0] 1),u (.ca N.cq 0 [] [.l 1,.l 0]),u (.bd [.nil,.nil,.nil,.t (.int .i64 (0))] [(3,1,.l 0)]),w 4 (.al [.nil,.nil,.nil,.t (.int .i64 (0))] []),u (.st l0 l1 4 [])] []) (.seq (.ite [m v0,u (.ca N.bQ 0 [] [.l 0,.i 3])] [] 0 (.reg [m v0,f 0 v2,g l0,u (.ln l0),u (.ca N.ax 0 [] [.l 3,.l 0]),u (.bs [.l 0] 1),f 0 v4,u (.st l0 l1 1 [])] []) .skip) (.seq (.ite [m v0,u (.ca N.bQ 0 [] [.l 0,.i 4])] [] 0 (.reg [m v0,f 0 v2,g l0,u (.ln l0),u (.ca N.ax 0 [] [.l 3,.l 0]),u (.bs [.l 0] 1),f 1 v4,u (.st l0 l1 1 [])] []) .skip) (.seq (.ite [m v0,u (.ca N.bQ 0 [] [.l 0,.i 4]),m l0,y 0 true (.fa v2 1),y 1 true (.ld l0 1 false),y 2 true (.ln l0),y 3 true (.bin .gtr l0 (.i 0)),u (.pk l4 l0 (.b false))] [] 0 (.reg [m v0,f 1 v2,g l0,u (.ln l0),u (.ca N.ax 0 [] [.l 3,.l 0]),u (.bs [.l 0] 1),f 2 v4,u (.st l0 l1 1 [])] []) .skip) (.seq (.reg [h 4 v4,u (.st v3 l0 4 [])] []) .ret)))))),res:=[(3,some (4,true))]}
def cQ:Fn:={ nargs:=8,vars:=[0,1,2,3,4,5,6,7,8,9,10,13,16,17,18,19,20,21,22,23,24,25],body:=(.seq (.reg [w 8 (.bx v0 2),w 9 (.bx v1 4),w 10 (.bx v2 1),w 11 (.bx v5 1),w 12 (.al [.nil,.nil] []),w 13 (.mv (.c (.nil))),w 14 (.mv (.i 0))] []) (.seq (.reg [h 2 v8,m v3,m v4,u (.ca N.dj 0 [] [.l 2,.l 1,.l 0]),m l0,u (.ex l0 0),u (.ex l1 1),w 15 (.al [.nil,.nil] []),u (.st l0 l2 2 []),w 16 (.mv l2)] []) (.seq (.ite [m v16,u (.bin .neq l0 (.i 0))] [] 0 (.seq (.reg [u (.bd [.nil,.nil] []),m v16,u (.st v12 l1 2 []),w 13 (.mv (.c (.nil))),w 14 (.mv l2)] []) .ret) .skip) (.seq (.seq (.reg [h 2 v8,h 4 v9,h 1 v10,m v6,m v7,u (.ca N.bL 0 [] [.l 4,.l 3,.l 2,.l 1,.l 0]),w 17 (.mv l0)] []) (.ite [m v17,u (.bin .neq l0 (.i 0))] [] 0 (.seq (.reg [u (.bd [.nil,.nil] []),m v17,u (.st v12 l1 2 []),w 13 (.mv (.c (.nil))),w 14 (.mv l2)] []) .ret) .skip)) (.seq (.reg [h 2 v15,h 1 v10,m v6,u (.ca N.iI 0 [] [.l 2,.l 1,.l 0]),m l0,u (.ex l0 0),u (.ex l1 1),w 18 (.al [.nil] []),u (.st l0 l2 1 []),w 16 (.mv l2)] []) (.seq (.ite [m v16,u (.bin .neq l0 (.i 0))] [] 0 (.seq (.reg [u (.bd [.nil,.nil] []),m v16,u (.st v12 l1 2 []),w 13 (.mv (.c (.nil))),w 14 (.mv l2)] []) .ret) .skip) (.seq (.reg [h 2 v15,h 4 v9,h 1 v18,m v6,m v7,u (.bin .add l1 l0),u (.ca N.bc 0 [] [.l 5,.l 4,.l 3,.l 0]),w 19 (.mv l0)] []) (.seq (.seq (.reg [m v19,u (.ca N.aL 1 [] [.l 0]),u (.mf N.cH [.v 11]),u (.ca N.aM 1 [0] [.l 1,.l 0]),w 20 (.mv l0)] []) (.ite [m v20,u (.ln l0),u (.bin .gtr l0 (.i 0))] [] 0 (.seq (.reg [h 2 v8,u (.ca N.dj 0 [] [.l 0,.c (.nil),.c (.nil)]),m l0,u (.ex l0 0),u (.ex l1 1),w 21 (.al [.nil,.nil] []),u (.st l0 l2 2 []),m l2] []) (.seq (.reg [h 2 v21,m v20,u (.st v12 l1 2 []),w 13 (.mv l1),w 14 (.mv (.i 46))] []) .ret)) .skip)) (.seq (.reg [h 2 v15,m v19,u (.st v12 l1 2 []),w 13 (.mv l1),w 14 (.mv (.i 0))] []) .ret))))))))),res:=[(12,some (2,true)),(13,none),(14,none)]}
def rN:C:=(.its [u (.bin .lss v13 v12)] [] 0 .skip (.exit 1) (.seq (.blk 2 (.seq (.reg [a 1 v11 v13,g l0,w 9 (.mv l0)] []) (.reg [f 1 v8,g l0,m v9,a 10 l1 l0,f 5 l0,u (.st l0 (.b true) 1 [])] []))) (.reg [u (.bin .add v13 (.i 1)),w 13 (.mv l0)] [])))
def tF:C:= .loop true [0,1,2,3,6,7,9,10,14,15,16] K.rN
def rO:C:=(.its [u (.bin .lss v16 v15)] [] 0 .skip (.exit 3) (.seq (.blk 4 (.seq (.reg [a 1 v14 v16,g l0,w 10 (.mv l0)] []) (.reg [f 1 v8,g l0,m v10,a 10 l1 l0,f 5 l0,u (.st l0 (.b false) 1 [])] []))) (.reg [u (.bin .add v16 (.i 1)),w 16 (.mv l0)] [])))
def tG:C:= .loop true [0,1,2,3,4,6,7,9,10,11,12,13] K.rO
def dj:Fn:={ nargs:=3,vars:=[0,1,2,3,5,6,7,8,9,11,13,47,48,49,59,60,61],body:=(.seq (.reg [w 3 (.bx v0 2),w 4 (.bx v2 1),w 5 (.al [.nil,.nil] []),w 6 (.mv (.i 0))] []) (.seq (.reg [f 1 v3,g l0,u (.ln l0),u (.bin .sub l0 (.i 1)),w 7 (.mv l0)] []) (.seq (.blk 0 (.ite [h 2 v3,u (.ca N.dy 0 [] [.l 0]),u (.un .not l0),m l0] [] 0 (.seq (.reg [u (.bd [.nil,.nil] []),u (.st v5 l0 2 []),w 6 (.mv (.i 6))] []) .ret) (.ite [m v1,m v7,u (.ca N.cF 0 [] [.l 1,.i 0,.l 0]),u (.un .not l0),m l0,y 0 false (.ld v4 1 false),y 1 false (.mv v7),y 2 false (.ca N.cF 0 [] [.l 1,.i 0,.l 0]),y 3 false (.un .not l0),u (.pk l4 (.b true) l0),m l0,y 0 false (.mv v1),y 1 false (.mf N.cY [.v 4]),y 2 false (.ca N.aD 0 [] [.l 1,.l 0]),u (.pk l3 (.b true) l0),m l0] [] 0 (.seq (.reg [u (.bd [.nil,.nil] []),u (.st v5 l0 2 []),w 6 (.mv (.i 4))] []) .ret) .skip))) (.seq (.reg [w 8 (.al [.nil,.nil] []),f 0 v3,g l0,u (.ca N.aR 0 [] [.l 0]),f 1 v3,g l0,u (.ca N.aU 1 [] [.l 0]),u (.bd [.nil,.nil] [(0,1,.l 3),(1,1,.l 0)]),u (.st l7 l0 2 [])] [(0,4),(0,7),(5,1)]) (.seq (.seq (.reg [w 11 (.mv v1),w 12 (.ln l0),w 13 (.mv (.i 0))] []) (.blk 1 K.tF)) (.seq (.seq (.reg [w 14 (.ld v4 1 false),w 15 (.ln l0),w 16 (.mv (.i 0))] []) (.blk 3 K.tG)) (.seq (.reg [h 2 v8,u (.st v5 l0 2 []),w 6 (.mv (.i 0))] []) .ret))))))),res:=[(5,some (2,true)),(6,none)]}
def dN:Fn:={ nargs:=3,vars:=[0,1,2,3,4,5,6],body:=(.seq (.reg [w 3 (.bx v0 2),w 4 (.bx v1 2),w 5 (.bx v2 4),w 6 (.mv (.c (.nil)))] []) (.seq (.ite [h 2 v3,h 4 v5,u (.ca N.fv 0 [] [.l 1,.l 0]),u (.un .not l0),m l0,y 0 false (.ld v4 2 true),y 1 false (.ld v5 4 true),y 2 false (.ca N.fv 0 [] [.l 1,.l 0]),y 3 false (.un .not l0),u (.pk l4 (.b true) l0)] [] 0 (.seq (.reg [w 6 (.mv (.c (.nil)))] []) .ret) .skip) (.seq (.reg [f 0 v3,g l0,u (.ln l0),u (.mf N.cZ [.v 3,.v 5,.v 4]),u (.ca N.eO 0 [] [.l 1,.l 0]),w 6 (.mv l0)] []) .ret))),res:=[(6,none)]}
def bH:Fn:={ nargs:=5,vars:=[0,1,2,3,4,5,6,7,10,11,12],body:=(.seq (.reg [w 5 (.bx v0 2),w 6 (.bx v1 4),w 7 (.bx v2 1),w 8 (.mv (.c (.nil))),w 9 (.mv (.i 0))] []) (.seq (.seq (.reg [h 2 v5,h 4 v6,h 1 v7,m v3,m v4,u (.ca N.bL 0 [] [.l 4,.l 3,.l 2,.l 1,.l 0]),w 10 (.mv l0)] []) (.ite [m v10,u (.bin .neq l0 (.i 0))] [] 0 (.seq (.reg [m v10,w 8 (.mv (.c (.nil))),w 9 (.mv l1)] []) .ret) .skip)) (.seq (.reg [h 2 v5,h 4 v6,h 1 v7,m v3,m v4,u (.bin .add l1 l0),u (.ca N.bc 0 [] [.l 5,.l 4,.l 3,.l 0]),w 8 (.mv l0),w 9 (.mv (.i 0))] []) .ret))),res:=[(8,none),(9,none)]}
def bL:Fn:={ nargs:=5,vars:=[0,1,2,3,4,5,6,7,10],body:=(.seq (.reg [w 5 (.bx v0 2),w 6 (.bx v1 4),w 7 (.bx v2 1),w 8 (.mv (.i 0))] []) (.seq (.blk 0 (.ite [h 2 v5,h 4 v6,u (.ca N.fv 0 [] [.l 1,.l 0]),u (.un .not l0),m l0,y 0 false (.ld v5 2 true),y 1 false (.ld v7 1 true),y 2 false (.ca N.eW 0 [] [.l 1,.l 0]),y 3 false (.un .not l0),u (.pk l4 (.b true) l0),m l0] [] 0 (.seq (.reg [w 8 (.mv (.i 6))] []) .ret) (.ite [m v3,u (.ca N.dF 0 [] [.l 0,.i 0,.i 2147483648]),u (.un .not l0),m l0,y 0 false (.mv v4),y 1 false (.ca N.dF 0 [] [.l 0,.i 0,.i 2147483648]),y 2 false (.un .not l0),u (.pk l3 (.b true) l0),m l0] [] 0 (.seq (.reg [w 8 (.mv (.i 8))] []) .ret) .skip))) (.seq (.reg [w 8 (.mv (.i 0))] []) .ret))),res:=[(8,none)]}
def bF:C:=(.its [u (.bin .lss v11 v10)] [] 0 .skip (.exit 0) (.seq (.blk 1 (.seq (.reg [m v11,w 9 (.mv l0)] []) (.reg [m v8,h 1 v6,m v9,m v3,u (.ca N.dC 0 [] [.l 2,.l 1,.l 0]),u (.ca N.fY 1 [] [.l 4,.l 0]),w 8 (.mv l0)] []))) (.reg [u (.bin .add v11 (.i 1)),w 11 (.mv l0)] [])))
def gS:C:= .loop false [0,1,2,7,9] K.bF
def bc:Fn:={ nargs:=4,vars:=[0,1,2,3,4,5,6,8,9,10,16,17],body:=(.seq (.reg [w 4 (.bx v0 2),w 5 (.bx v1 4),w 6 (.bx v2 1),w 7 (.mv (.c (.nil)))] []) (.seq (.reg [w 8 (.mv (.c (.nil)))] []) (.seq (.seq (.reg [f 0 v6,g l0,a 2 l0 (.i 0),f 1 l0,g l0,w 10 (.ln l0),w 11 (.mv (.i 0))] []) (.blk 0 K.gS)) (.seq (.reg [m v8,u (.mf N.bz [.v 4,.v 5]),u (.ca N.aM 1 [0] [.l 1,.l 0]),w 7 (.mv l0)] []) .ret)))),res:=[(7,none)]}
def dk:C:=(.seq (.ite [m v4,m v0,u (.ln l0),u (.bin .lss l2 l0)] [] 0 .skip (.exit 0)) (.seq (.blk 1 (.seq (.reg [m v0,m v4,a 1 l1 l0,g l0,w 5 (.mv l0)] []) (.ite [m v1,m v5,u (.cw l1 0 [] [.l 0]),u (.un .not l0)] [] 0 (.seq (.reg [m v0,m v3,m v5,a 1 l2 l1,u (.st l0 l1 1 [])] []) (.reg [m v3,u (.bin .add l0 (.i 1)),w 3 (.mv l0)] [])) .skip))) (.reg [m v4,u (.bin .add l0 (.i 1)),w 4 (.mv l0)] [])))
def iE:C:= .loop true [2,5] K.dk
def aM:Fn:={ nargs:=2,vars:=[0,1,4,5,6,7],body:=(.seq (.reg [w 2 (.mv (.c (.nil)))] []) (.seq (.reg [m v0,m v1,u (.ca N.aF 0 [0] [.l 1,.l 0]),w 3 (.mv l0)] []) (.seq (.ite [m v3,u (.bin .eql l0 (.i (-1)))] [] 0 (.seq (.reg [m v0,w 2 (.mv l0)] []) .ret) .skip) (.seq (.seq (.reg [m v3,u (.bin .add l0 (.i 1)),w 4 (.mv l0)] []) (.blk 0 K.iE)) (.seq (.reg [m v0,m v3,u (.sc l1 (some l0) none 1),u (.clr l0 (.int .i64 (0)) 1)] []) (.seq (.reg [m v0,m v3,u (.pop l1 l0),w 2 (.mv l0)] []) .ret)))))),res:=[(2,none)]}
def cH:Fn:={ nargs:=2,vars:=[0,1,3],body:=(.seq (.reg [w 2 (.mv (.b false))] []) (.seq (.reg [g v1,m v0,u (.ca N.aE 0 [] [.l 1,.l 0]),w 2 (.mv l0)] []) .ret)),res:=[(2,none)]}
def cY:Fn:={ nargs:=2,vars:=[0,1,3],body:=(.seq (.reg [w 2 (.mv (.b false))] []) (.seq (.reg [g v1,m v0,u (.ca N.aE 0 [] [.l 1,.l 0]),w 2 (.mv l0)] []) .ret)),res:=[(2,none)]}
def fv:Fn:={ nargs:=2,vars:=[0,1,2,3,4,5],body:=(.seq (.reg [w 2 (.bx v0 2),w 3 (.bx v1 4),w 4 (.mv (.b false))] []) (.seq (.reg [f 0 v2,g l0,u (.ln l0),u (.bin .sub l0 (.i 1)),w 5 (.mv l0)] []) (.seq (.reg [h 2 v2,u (.ca N.dy 0 [] [.l 0]),m l0,y 0 true (.fa v3 0),y 1 true (.ld l0 1 false),y 2 true (.mv v5),y 3 true (.ca N.cF 0 [] [.l 1,.i 0,.l 0]),u (.pk l4 l0 (.b false)),m l0,y 0 true (.fa v3 1),y 1 true (.ld l0 1 false),y 2 true (.mv v5),y 3 true (.ca N.cF 0 [] [.l 1,.i 0,.l 0]),u (.pk l4 l0 (.b false)),m l0,y 0 true (.fa v3 2),y 1 true (.ld l0 1 false),y 2 true (.fa v2 1),y 3 true (.ld l0 1 false),y 4 true (.ln l0),y 5 true (.bin .sub l0 (.i 1)),y 6 true (.ca N.cF 0 [] [.l 4,.i 0,.l 0]),u (.pk l7 l0 (.b false)),m l0,y 0 true (.fa v3 3),y 1 true (.ld l0 1 false),y 2 true (.ca N.dF 0 [] [.l 0,.i 0,.i 2147483648]),u (.pk l3 l0 (.b false)),w 4 (.mv l0)] []) .ret))),res:=[(4,none)]}
def cZ:Fn:={ nargs:=4,vars:=[0,1,2,3,5],body:=(.seq (.reg [w 4 (.mv (.b false))] []) (.seq (.reg [h 2 v1,h 4 v2,m v0,u (.ca N.cI 0 [] [.l 2,.l 1,.l 0]),m l0,y 0 true (.ld v3 2 true),y 1 true (.ld v2 4 true),y 2 true (.mv v0),y 3 true (.ca N.cI 0 [] [.l 2,.l 1,.l 0]),y 4 true (.un .not l0),u (.pk l5 l0 (.b false)),w 4 (.mv l0)] []) .ret)),res:=[(4,none)]}
end Go.Ev.K
namespace Go.Ev
class jP [Lib]:Prop where
 gT:Lib.fs N.bw=some K.bw
 vk:Lib.fs N.fX=some K.fX
 kd:Lib.fs N.cN=some K.cN
 mS:Lib.fs N.cQ=some K.cQ
 nB:Lib.fs N.dj=some K.dj
 nC:Lib.fs N.dN=some K.dN
 kf:Lib.fs N.bH=some K.bH
 i9:Lib.fs N.bL=some K.bL
 kg:Lib.fs N.bc=some K.bc
 dI:Lib.fs N.aM=some K.aM
 kU:Lib.fs N.cH=some K.cH
 lG:Lib.fs N.cY=some K.cY
 qQ:Lib.fs N.fv=some K.fv
 lH:Lib.fs N.cZ=some K.cZ
namespace K
variable [Lib] [jP]
theorem gT:Lib.fs N.bw=some K.bw:=jP.gT
theorem vk:Lib.fs N.fX=some K.fX:=jP.vk
theorem kd:Lib.fs N.cN=some K.cN:=jP.kd
theorem mS:Lib.fs N.cQ=some K.cQ:=jP.mS
theorem nB:Lib.fs N.dj=some K.dj:=jP.nB
theorem nC:Lib.fs N.dN=some K.dN:=jP.nC
theorem kf:Lib.fs N.bH=some K.bH:=jP.kf
theorem i9:Lib.fs N.bL=some K.bL:=jP.i9
theorem kg:Lib.fs N.bc=some K.bc:=jP.kg
theorem dI:Lib.fs N.aM=some K.aM:=jP.dI
theorem kU:Lib.fs N.cH=some K.cH:=jP.kU
theorem lG:Lib.fs N.cY=some K.cY:=jP.lG
theorem qQ:Lib.fs N.fv=some K.fv:=jP.qQ
theorem lH:Lib.fs N.cZ=some K.cZ:=jP.lH
end K
end Go.Ev
namespace Go.Ev.K
open Go.Ev
def cI:Fn:={ nargs:=3,vars:=[0,1,2,3,4,6,9,10],body:=(.seq (.reg [w 3 (.bx v0 2),w 4 (.bx v1 4),w 5 (.mv (.b false))] []) (.seq (.reg [h 2 v3,h 4 v4,m v2,u (.ca N.iD 0 [] [.l 2,.l 1,.l 0]),m l0,u (.ex l0 0),u (.ex l1 1),u (.ex l2 2),u (.ex l3 3),w 6 (.al [.t (.int .i64 (0)),.t (.int .i64 (0))] []),m l4,m l4,u (.st l2 l4 2 []),w 7 (.mv l4)] []) (.seq (.reg [m v7,m l0,y 0 true (.ld v3 2 true),y 1 true (.mv v2),y 2 true (.ca N.kI 0 [] [.l 1,.l 0]),y 3 true (.iaa v6 (.i 0) 2 1),y 4 true (.ld l0 1 false),y 5 true (.iaa v6 (.i 1) 2 1),y 6 true (.ld l0 1 false),y 7 true (.mx [.l 2,.l 0]),y 8 true (.bin .add l5 l0),y 9 true (.fa v4 3),y 10 true (.ld l0 1 false),y 11 true (.bin .leq l2 l0),u (.pk (.l 12) l0 (.b false)),w 5 (.mv l0)] [(6,0),(8,0),(12,0)]) .ret))),res:=[(5,none)]}
def fY:Fn:={ nargs:=2,vars:=[0,1,4,5],body:=(.seq (.reg [w 2 (.mv (.c (.nil)))] []) (.seq (.reg [m v0,m v1,u (.bs [.l 1,.l 0] 1),u (.ca N.bg 1 [] [.l 0]),w 3 (.mv l0)] []) (.seq (.reg [m v3,u (.ca N.bA 0 [0] [.l 0])] []) (.seq (.reg [m v3,u (.ca N.aQ 1 [0] [.l 0]),w 2 (.mv l0)] []) .ret)))),res:=[(2,none)]}
def bz:Fn:={ nargs:=3,vars:=[0,1,2,4],body:=(.seq (.reg [w 3 (.mv (.b false))] []) (.seq (.reg [h 2 v1,h 4 v2,m v0,u (.ca N.cI 0 [] [.l 2,.l 1,.l 0]),w 3 (.mv l0)] []) .ret)),res:=[(3,none)]}
def qR:C:=(.its [u (.bin .lss v15 v14)] [] 0 .skip (.exit 0) (.seq (.blk 1 (.seq (.reg [a 1 v13 v15,g l0,w 12 (.mv l0)] []) (.reg [f 3 v9,g l0,m v12,a 1 l1 l0,u (.st l0 (.b true) 1 [])] []))) (.reg [u (.bin .add v15 (.i 1)),w 15 (.mv l0)] [])))
def zo:C:= .loop true [0,1,3,4,6,8,10,11,12] K.qR
def iD:Fn:={ nargs:=3,vars:=[0,1,2,3,4,6,7,8,9,10,11,12,14,44,45,46],body:=(.seq (.reg [w 3 (.bx v0 2),w 4 (.bx v1 4),w 5 (.al [.nil] []),w 6 (.mv (.c (.nil))),w 7 (.al [.t (.int .i64 (0)),.t (.int .i64 (0))] []),w 8 (.mv (.b false))] []) (.seq (.ite [h 2 v3,h 4 v4,m v2,u (.ca N.im 0 [] [.l 2,.l 1,.l 0]),u (.un .not l0)] [] 0 (.seq (.reg [h 2 v7,u (.st v5 (.c (.nil)) 1 []),w 6 (.mv (.c (.nil))),u (.st v7 l2 2 []),w 8 (.mv (.b false))] [(0,2)]) .ret) .skip) (.seq (.reg [h 2 v3,h 4 v4,u (.ca N.fQ 1 [] [.l 1,.l 0]),w 9 (.al [.t (.int .i64 (0)),.nil,.nil,.nil] []),u (.st l0 l1 4 [])] []) (.seq (.ite [f 2 v9,g l0,m v2,a 1 l1 l0,g l0] [] 0 (.seq (.reg [h 2 v7,u (.st v5 (.c (.nil)) 1 []),w 6 (.mv (.c (.nil))),u (.st v7 l2 2 []),w 8 (.mv (.b true))] [(0,2)]) .ret) .skip) (.seq (.reg [h 4 v9,m v2,u (.ca N.bI 0 [0] [.l 1,.l 0]),m l0,u (.ex l0 0),u (.ex l1 1),u (.ex l2 2),u (.ex l3 3),u (.st v5 l3 1 []),w 10 (.mv l3),w 11 (.mv l3),w 8 (.mv l3)] []) (.seq (.ite [m v8,u (.un .not l0)] [] 0 (.seq (.reg [h 2 v7,u (.st v5 (.c (.nil)) 1 []),w 6 (.mv (.c (.nil))),u (.st v7 l2 2 []),w 8 (.mv (.b false))] [(0,2)]) .ret) .skip) (.seq (.reg [m v10,u (.iaa v7 (.i 0) 2 1),u (.st l0 l1 1 [])] []) (.seq (.seq (.reg [m v11,w 13 (.sc l0 (some (.i 1)) none 1),w 14 (.ln l0),w 15 (.mv (.i 0))] []) (.blk 0 K.zo)) (.seq (.reg [f 1 v9,g l0,u (.mf N.cR [.v 5]),u (.ca N.ay 1 [0] [.l 1,.l 0]),f 1 v9,u (.st l0 l1 1 [])] []) (.seq (.reg [h 4 v9,m v2,u (.ca N.bI 0 [0] [.l 1,.l 0]),m l0,u (.ex l0 0),u (.ex l1 1),u (.ex l2 2),u (.ex l3 3),w 6 (.mv l3),u (.iaa v7 (.i 1) 2 1),u (.st l0 l4 1 []),w 8 (.mv l3)] []) (.seq (.ite [m v8,u (.un .not l0)] [] 0 (.seq (.reg [h 2 v7,u (.st v5 (.c (.nil)) 1 []),w 6 (.mv (.c (.nil))),u (.st v7 l2 2 []),w 8 (.mv (.b false))] [(0,2)]) .ret) .skip) (.seq (.reg [g v5,m v6,h 2 v7,u (.st v5 l2 1 []),w 6 (.mv l2),u (.st v7 l2 2 []),w 8 (.mv (.b true))] [(2,4)]) .ret)))))))))))),res:=[(5,some (1,false)),(6,none),(7,some (2,true)),(8,none)]}
def qS:C:=(.its [u (.bin .lss v9 v8)] [] 0 .skip (.exit 0) (.seq (.blk 1 (.seq (.reg [m v9,a 10 v7 v9,h 10 l0,w 6 (.al [.t (.int .i64 (0)),.t (.int .i64 (0)),.t (.int .i64 (0)),.t (.int .i64 (0)),.t (.bool false),.t (.bool false),.t (.int .i64 (0)),.t (.int .i64 (0)),.t (.int .i64 (0)),.t (.int .i64 (0))] []),w 5 (.mv l3),u (.st l1 l2 10 [])] []) (.seq (.ite [f 1 v6,g l0,m v1,u (.bin .eql l1 l0)] [] 0 (.reg [m v4,h 2 v2,m v5,u (.ca N.gL 0 [] [.l 1,.l 0,.b false]),u (.mx [.l 3,.l 0]),w 4 (.mv l0)] []) .skip) (.ite [f 0 v6,g l0,m v1,u (.bin .eql l1 l0)] [] 0 (.reg [m v4,h 2 v2,m v5,u (.ca N.gL 0 [] [.l 1,.l 0,.b true]),u (.mx [.l 3,.l 0]),w 4 (.mv l0)] []) .skip)))) (.reg [u (.bin .add v9 (.i 1)),w 9 (.mv l0)] [])))
def zp:C:= .loop true [0,3,5,6] K.qS
def kI:Fn:={ nargs:=2,vars:=[0,1,2,4,5,6,7,9,10,11],body:=(.seq (.reg [w 2 (.bx v0 2),w 3 (.mv (.i 0))] []) (.seq (.reg [w 4 (.mv (.i 0))] []) (.seq (.seq (.reg [f 1 v2,w 7 (.ld l0 1 false),w 8 (.ln l0),w 9 (.mv (.i 0))] []) (.blk 0 K.zp)) (.seq (.reg [m v4,w 3 (.mv l0)] []) .ret)))),res:=[(3,none)]}
def ei:C:=(.its [u (.bin .lss v8 v7)] [] 0 .skip (.exit 0) (.seq (.blk 1 (.seq (.reg [a 1 v6 v8,g l0,w 3 (.mv l0)] []) (.seq (.reg [m v2,m v3,u (.ln l0),u (.bin .add l2 l0),w 2 (.mv l0)] []) (.ite [m v2,u (.bin .lss l0 (.i 0))] [] 0 .fail .skip)))) (.reg [u (.bin .add v8 (.i 1)),w 8 (.mv l0)] [])))
def jL:C:= .loop true [1,3,4,5,9,10,11] K.ei
def et:C:=(.its [u (.bin .lss v11 v10)] [] 0 .skip (.exit 2) (.seq (.blk 3 (.seq (.reg [a 1 v9 v11,g l0,w 5 (.mv l0)] []) (.reg [m v4,m v5,u (.app l1 l0 true 1),w 4 (.mv l0)] []))) (.reg [u (.bin .add v11 (.i 1)),w 11 (.mv l0)] [])))
def jM:C:= .loop true [0,1,2,3,5,6,7,8] K.et
def bg:Fn:={ nargs:=1,vars:=[0,2,3,5,6,8,9,10,11,25,26,27],body:=(.seq (.reg [w 1 (.mv (.c (.nil)))] []) (.seq (.reg [w 2 (.mv (.i 0))] []) (.seq (.seq (.reg [w 6 (.mv v0),w 7 (.ln l0),w 8 (.mv (.i 0))] []) (.blk 0 K.jL)) (.seq (.reg [m v2,u (.ca N.bN 1 [0] [.c (.nil),.l 0]),w 4 (.mv l0)] []) (.seq (.seq (.reg [w 9 (.mv v0),w 10 (.ln l0),w 11 (.mv (.i 0))] []) (.blk 2 K.jM)) (.seq (.reg [m v4,w 1 (.mv l0)] []) .ret)))))),res:=[(1,none)]}
def dR:C:=(.seq (.ite [m v4,m v3,u (.ln l0),u (.bin .lss l2 l0)] [] 0 .skip (.exit 2)) (.seq (.blk 3 (.ite [m v3,m v4,a 1 l1 l0,g l0,m v3,m v4,u (.bin .sub l0 (.i 1)),a 1 l2 l0,g l0,u (.bin .neq l5 l0)] [] 0 (.seq (.reg [m v0,m v2,m v3,m v4,a 1 l1 l0,g l0,a 1 l5 l4,u (.st l0 l1 1 [])] []) (.reg [m v2,u (.bin .add l0 (.i 1)),w 2 (.mv l0)] [])) .skip)) (.reg [m v4,u (.bin .add l0 (.i 1)),w 4 (.mv l0)] [])))
def jv:C:= .loop true [1] K.dR
def bZ:C:=(.seq (.ite [m v2,m v0,u (.ln l0),u (.bin .lss l2 l0)] [] 0 .skip (.exit 0)) (.seq (.blk 1 (.ite [m v0,m v2,a 1 l1 l0,g l0,m v0,m v2,u (.bin .sub l0 (.i 1)),a 1 l2 l0,g l0,u (.bin .eql l5 l0)] [] 0 (.seq (.reg [m v0,m v2,u (.sc l1 (some l0) none 1),w 3 (.mv l0)] []) (.seq (.seq (.reg [w 4 (.mv (.i 1))] []) (.blk 2 K.jv)) (.seq (.reg [m v0,m v2,u (.sc l1 (some l0) none 1),u (.clr l0 (.int .i64 (0)) 1)] []) (.seq (.reg [m v0,m v2,u (.pop l1 l0),w 1 (.mv l0)] []) .ret)))) .skip)) (.reg [m v2,u (.bin .add l0 (.i 1)),w 2 (.mv l0)] [])))
def gg:C:= .loop true [1,3,4] K.bZ
def aQ:Fn:={ nargs:=1,vars:=[0,2,3,4,5],body:=(.seq (.reg [w 1 (.mv (.c (.nil)))] []) (.seq (.ite [m v0,u (.ln l0),u (.bin .lss l0 (.i 2))] [] 0 (.seq (.reg [m v0,w 1 (.mv l0)] []) .ret) .skip) (.seq (.seq (.reg [w 2 (.mv (.i 1))] []) (.blk 0 K.gg)) (.seq (.reg [m v0,w 1 (.mv l0)] []) .ret)))),res:=[(1,none)]}
def im:Fn:={ nargs:=3,vars:=[0,1,2,3,4,6],body:=(.seq (.reg [w 3 (.bx v0 2),w 4 (.bx v1 4),w 5 (.mv (.b false))] []) (.seq (.reg [h 2 v3,h 4 v4,u (.ca N.fv 0 [] [.l 1,.l 0]),m l0,y 0 true (.mv v2),y 1 true (.fa v3 0),y 2 true (.ld l0 1 false),y 3 true (.ln l0),y 4 true (.bin .sub l0 (.i 1)),y 5 true (.ca N.dF 0 [] [.l 4,.i 0,.l 0]),u (.pk l6 l0 (.b false)),w 5 (.mv l0)] []) .ret)),res:=[(5,none)]}
def pO:C:=(.its [u (.bin .lss v16 v15)] [] 0 .skip (.exit 0) (.seq (.blk 1 (.seq (.reg [m v16,a 2 v14 v16,h 2 l0,w 7 (.al [.t (.int .i64 (0)),.t (.bool false)] []),w 6 (.mv l3),u (.st l1 l2 2 [])] []) (.reg [f 2 v5,g l0,m v6,f 1 v7,g l0,a 1 l3 l2,u (.st l0 l1 1 [])] []))) (.reg [u (.bin .add v16 (.i 1)),w 16 (.mv l0)] [])))
def xA:C:= .loop true [0,1,6,7,8,9,10,11,12,13,17,18,19,20,21,22,23,24,25] K.pO
def pP:C:=(.its [u (.bin .lss v19 v18)] [] 0 .skip (.exit 2) (.seq (.blk 3 (.seq (.reg [a 1 v17 v19,g l0,w 8 (.mv l0)] []) (.reg [f 2 v5,g l0,m v8,a 1 l1 l0,u (.st l0 (.b true) 1 [])] []))) (.reg [u (.bin .add v19 (.i 1)),w 19 (.mv l0)] [])))
def xB:C:= .loop true [0,1,6,7,8,9,10,11,12,13,14,15,16,20,21,22,23,24,25] K.pP
def pQ:C:=(.its [u (.bin .lss v22 v21)] [] 0 .skip (.exit 4) (.seq (.blk 5 (.seq (.reg [a 1 v20 v22,g l0,w 9 (.mv l0)] []) (.reg [f 3 v5,g l0,m v9,a 1 l1 l0,u (.st l0 (.b true) 1 [])] []))) (.reg [u (.bin .add v22 (.i 1)),w 22 (.mv l0)] [])))
def xC:C:= .loop true [0,1,6,7,8,9,10,11,12,13,14,15,16,17,18,19,23,24,25] K.pQ
def gU:C:=(.its [u (.bin .lss (.v 25) (.v 24))] [] 0 .skip (.exit 6) (.seq (.blk 7 (.seq (.reg [m (.v 25),a 10 v23 (.v 25),h 10 l0,w 11 (.al [.t (.int .i64 (0)),.t (.int .i64 (0)),.t (.int .i64 (0)),.t (.int .i64 (0)),.t (.bool false),.t (.bool false),.t (.int .i64 (0)),.t (.int .i64 (0)),.t (.int .i64 (0)),.t (.int .i64 (0))] []),w 10 (.mv l3),u (.st l1 l2 10 [])] []) (.seq (.ite [f 2 v3,g l0,m v10,u (.ca N.aE 0 [] [.l 1,.l 0])] [] 0 (.exit 7) .skip) (.seq (.seq (.reg [h 2 v2,m v10,u (.ca N.gL 0 [] [.l 1,.l 0,.b false]),w 12 (.mv l0)] []) (.ite [m v12,u (.bin .geq l0 (.i 0))] [] 0 (.reg [f 1 v5,g l0,m v10,f 0 v11,g l0,f 1 v11,g l0,m v12,u (.bd [.t (.int .i64 (0)),.t (.int .i64 (0)),.t (.int .i64 (0)),.t (.int .i64 (0))] [(0,1,.l 5),(1,1,.l 3),(2,1,.l 1),(3,1,.l 0)]),u (.bs [.l 0] 4),u (.app l8 l0 true 4),f 1 v5,u (.st l0 l1 1 [])] []) .skip)) (.seq (.reg [h 2 v2,m v10,u (.ca N.gL 0 [] [.l 1,.l 0,.b true]),w 13 (.mv l0)] []) (.ite [m v13,u (.bin .geq l0 (.i 0))] [] 0 (.reg [f 1 v5,g l0,m v10,f 1 v11,g l0,f 0 v11,g l0,m v13,u (.bd [.t (.int .i64 (0)),.t (.int .i64 (0)),.t (.int .i64 (0)),.t (.int .i64 (0))] [(0,1,.l 5),(1,1,.l 3),(2,1,.l 1),(3,1,.l 0)]),u (.bs [.l 0] 4),u (.app l8 l0 true 4),f 1 v5,u (.st l0 l1 1 [])] []) .skip)))))) (.reg [u (.bin .add (.v 25) (.i 1)),w 25 (.mv l0)] [])))
def xD:C:= .loop true [0,1,6,7,8,9,10,11,12,13,14,15,16,17,18,19,20,21,22] K.gU
def fQ:Fn:={ nargs:=2,vars:=[0,1,2,3,4,5,6,7,9,11,12,13,14,15,29,30,31,44,45,46,56,57,58,68,69,70],body:=(.seq (.reg [w 2 (.bx v0 2),w 3 (.bx v1 4),w 4 (.al [.t (.int .i64 (0)),.nil,.nil,.nil] [])] []) (.seq (.reg [w 5 (.al [.t (.int .i64 (0)),.nil,.nil,.nil] [(1,4)]),f 0 v2,g l0,u (.ln l0),f 0 v2,g l0,u (.ln l0),u (.mkn l0 (.bool false) 1),f 0 v2,g l0,u (.ln l0),u (.mkn l0 (.bool false) 1),u (.bd [.t (.int .i64 (0)),.nil,.nil,.nil] [(0,1,.l 8),(2,1,.l 4),(3,1,.l 0)]),u (.st (.l 12) l0 4 [(1,4)])] [(2,12),(5,12),(9,12)]) (.seq (.seq (.reg [f 0 v2,w 14 (.ld l0 1 false),w 15 (.ln l0),w 16 (.mv (.i 0))] []) (.blk 0 K.xA)) (.seq (.seq (.reg [f 0 v3,w 17 (.ld l0 1 false),w 18 (.ln l0),w 19 (.mv (.i 0))] []) (.blk 2 K.xB)) (.seq (.seq (.reg [f 1 v3,w 20 (.ld l0 1 false),w 21 (.ln l0),w 22 (.mv (.i 0))] []) (.blk 4 K.xC)) (.seq (.seq (.reg [f 1 v2,w 23 (.ld l0 1 false),w 24 (.ln l0),w 25 (.mv (.i 0))] []) (.blk 6 K.xD)) (.seq (.reg [h 4 v5,u (.st v4 l0 4 [])] []) .ret))))))),res:=[(4,some (4,true))]}
def dK:C:=(.seq (.ite [f 2 v2,g l0,g v8,a 1 l1 l0,g l0,u (.un .not l0)] [] 0 .skip (.exit 0)) (.seq (.blk 1 (.seq (.reg [f 1 v2,g l0,u (.mf N.az [.v 8,.v 2,.v 7]),u (.ca N.ak 0 [0] [.l 1,.l 0]),w 9 (.mv l0)] []) (.seq (.reg [f 1 v2,g l0,m v9,a 4 l1 l0,f 2 l0,g l0,u (.st v8 l0 1 [])] []) (.reg [m v3,f 1 v2,g l0,m v9,a 4 l1 l0,f 0 l0,g l0,u (.bs [.l 0] 1),u (.app l7 l0 true 1),m v5,g v8,u (.bs [.l 0] 1),u (.app l2 l0 true 1),w 3 (.mv l4),w 5 (.mv l1)] [(7,7),(10,0),(11,0)])))) (.seq (.reg [w 10 (.ld v8 1 false)] []) (.reg [w 8 (.al [.t (.int .i64 (0))] []),u (.st l0 v10 1 [])] []))))
def mT:C:= .loop false [0,4,6,9,10] K.dK
def bI:Fn:={ nargs:=2,vars:=[0,1,2,4,5,6,7,8,9,10,51],body:=(.seq (.reg [w 2 (.bx v0 4),w 3 (.nw 1),w 4 (.mv (.i 0)),w 5 (.nw 1),w 6 (.mv (.b false))] []) (.seq (.reg [h 4 v2,u (.ca N.cm 0 [0] [.l 0]),w 7 (.al [.nil] []),u (.st l0 l1 1 [])] []) (.seq (.ite [g v7,m v1,a 2 l1 l0,f 0 l0,g l0,u (.bin .geq l0 (.i 1152921504606846976))] [] 0 (.seq (.reg [w 3 (.nw 1),w 4 (.mv (.i 0)),w 5 (.nw 1),w 6 (.mv (.b false))] []) .ret) .skip) (.seq (.reg [m v1,u (.bsr [.l 0] 1),w 5 (.mv l0)] []) (.seq (.seq (.reg [m v1,w 8 (.al [.t (.int .i64 (0))] []),u (.st l0 l1 1 [])] []) (.blk 0 K.mT)) (.seq (.reg [m v3,g v7,m v1,a 2 l1 l0,f 0 l0,g l0,m v5,w 3 (.mv l6),w 4 (.mv l2),w 5 (.mv l2),w 6 (.mv (.b true))] []) .ret)))))),res:=[(3,none),(4,none),(5,none),(6,none)]}
def bC:C:=(.seq (.ite [m v4,m v0,u (.ln l0),u (.bin .lss l2 l0)] [] 0 .skip (.exit 0)) (.seq (.blk 1 (.seq (.reg [m v0,m v4,a 4 l1 l0,h 4 l0,w 5 (.al [.t (.int .i64 (0)),.t (.int .i64 (0)),.t (.int .i64 (0)),.t (.int .i64 (0))] []),u (.st l0 l1 4 [])] []) (.ite [m v1,h 4 v5,u (.cw l1 0 [] [.l 0]),u (.un .not l0)] [] 0 (.seq (.reg [m v0,m v3,h 4 v5,a 4 l2 l1,u (.st l0 l1 4 [])] []) (.reg [m v3,u (.bin .add l0 (.i 1)),w 3 (.mv l0)] [])) .skip))) (.reg [m v4,u (.bin .add l0 (.i 1)),w 4 (.mv l0)] [])))
def ee:C:= .loop true [2,5] K.bC
def ay:Fn:={ nargs:=2,vars:=[0,1,4,5,6,7],body:=(.seq (.reg [w 2 (.mv (.c (.nil)))] []) (.seq (.reg [m v0,m v1,u (.ca N.ak 0 [0] [.l 1,.l 0]),w 3 (.mv l0)] []) (.seq (.ite [m v3,u (.bin .eql l0 (.i (-1)))] [] 0 (.seq (.reg [m v0,w 2 (.mv l0)] []) .ret) .skip) (.seq (.seq (.reg [m v3,u (.bin .add l0 (.i 1)),w 4 (.mv l0)] []) (.blk 0 K.ee)) (.seq (.reg [m v0,m v3,u (.sc l1 (some l0) none 4),u (.clr l0 (.agg [(.int .i64 (0)),(.int .i64 (0)),(.int .i64 (0)),(.int .i64 (0))]) 4)] []) (.seq (.reg [m v0,m v3,u (.pop l1 l0),w 2 (.mv l0)] []) .ret)))))),res:=[(2,none)]}
def cR:Fn:={ nargs:=2,vars:=[0,1,2,3],body:=(.seq (.reg [w 2 (.bx v0 4),w 3 (.mv (.b false))] []) (.seq (.reg [g v1,f 0 v2,g l0,u (.ca N.aE 0 [] [.l 2,.l 0]),w 3 (.mv l0)] []) .ret)),res:=[(3,none)]}
def gL:Fn:={ nargs:=3,vars:=[0,1,2,3,6],body:=(.seq (.reg [w 3 (.bx v0 2),w 4 (.mv (.i 0))] []) (.seq (.ite [h 2 v3,u (.ca N.dy 0 [] [.l 0]),u (.un .not l0),m l0,y 0 false (.mv v1),y 1 false (.bin .lss l0 (.i 0)),u (.pk l2 (.b true) l0),m l0,y 0 false (.mv v1),y 1 false (.fa v3 1),y 2 false (.ld l0 1 false),y 3 false (.ln l0),y 4 false (.bin .geq l3 l0),u (.pk l5 (.b true) l0)] [] 0 (.seq (.reg [w 4 (.mv (.i (-1)))] []) .ret) .skip) (.seq (.reg [h 2 v3,m v1,m v2,u (.ca N.ju 0 [] []),u (.ca N.dS 0 [] [.l 3,.l 2,.l 1,.l 0]),w 4 (.mv l0)] [(0,4)]) .ret))),res:=[(4,none)]}
def bN:Fn:={ nargs:=2,vars:=[4],body:= .fail,res:=[(0,none)],prim:=[4]}
def fR:C:=(.its [u (.bin .lss v9 v8)] [] 0 .skip (.exit 0) (.seq (.blk 1 (.seq (.reg [m v9,w 4 (.mv l0)] []) (.ite [f 2 v1,g l0,m v4,a 1 l1 l0,g l0,u (.un .not l0)] [] 0 (.reg [m v3,m v4,a 2 l1 l0,f 0 l0,u (.st l0 (.i 1152921504606846976) 1 [])] []) .skip))) (.reg [u (.bin .add v9 (.i 1)),w 9 (.mv l0)] [])))
def lI:C:= .loop true [0,2,4,5,6,7,10,11,12] K.fR
def dz:C:=(.its [u (.bin .lss v12 v11)] [] 0 .skip (.exit 4) (.seq (.blk 5 (.seq (.reg [a 4 v10 v12,h 4 l0,w 6 (.al [.t (.int .i64 (0)),.t (.int .i64 (0)),.t (.int .i64 (0)),.t (.int .i64 (0))] []),u (.st l0 l1 4 [])] []) (.seq (.reg [w 7 (.al [.t (.int .i64 (0)),.t (.int .i64 (0))] []),m v3,f 2 v6,g l0,a 2 l2 l0,f 0 l0,g l0,f 3 v6,g l0,u (.bin .add l2 l0),m v3,f 2 v6,g l0,a 2 l2 l0,f 1 l0,g l0,u (.bin .add l0 (.i 1)),u (.bd [.t (.int .i64 (0)),.t (.int .i64 (0))] [(0,1,.l 7),(1,1,.l 0)]),u (.st (.l 17) l0 2 [])] []) (.ite [h 4 v1,h 4 v6,u (.ca N.bM 0 [0] [.l 1,.l 0]),m l0,y 0 true (.mv v3),y 1 true (.fa v6 2),y 2 true (.ld l0 1 false),y 3 true (.ia l2 l0 2),y 4 true (.fa l0 0),y 5 true (.ld l0 1 false),y 6 true (.bin .lss l0 (.i 1152921504606846976)),u (.pk l7 l0 (.b false)),m l0,y 0 true (.ld v7 2 true),y 1 true (.mv v3),y 2 true (.fa v6 1),y 3 true (.ld l0 1 false),y 4 true (.ia l2 l0 2),y 5 true (.ld l0 2 true),y 6 true (.ca N.dD 0 [] [.l 5,.l 0]),u (.pk l7 l0 (.b false))] [] 0 (.reg [m v3,f 1 v6,g l0,h 2 v7,a 2 l3 l1,u (.st l0 l1 2 []),w 5 (.mv (.b true))] []) .skip)))) (.reg [u (.bin .add v12 (.i 1)),w 12 (.mv l0)] [])))
def lJ:C:= .loop true [0,2,4,6,7,8,9] K.dz
def iM:C:=(.seq (.ite [m v5] [] 0 .skip (.exit 2)) (.blk 3 (.seq (.reg [w 5 (.mv (.b false))] []) (.seq (.reg [f 1 v1,w 10 (.ld l0 1 false),w 11 (.ln l0),w 12 (.mv (.i 0))] []) (.blk 4 K.lJ)))))
def lK:C:= .loop true [0,2,4,6,7,8,9,10,11,12] K.iM
def cm:Fn:={ nargs:=1,vars:=[0,1,2,3,4,5,7,8,13,14,30,31,32],body:=(.seq (.reg [w 1 (.bx v0 4),w 2 (.mv (.c (.nil)))] []) (.seq (.reg [f 0 v1,g l0,u (.mk l0 (.t (.agg [(.int .i64 (0)),(.int .i64 (0))])) 2),w 3 (.mv l0)] []) (.seq (.seq (.reg [m v3,w 8 (.ln l0),w 9 (.mv (.i 0))] []) (.blk 0 K.lI)) (.seq (.seq (.reg [w 5 (.mv (.b true))] []) (.blk 2 K.lK)) (.seq (.reg [m v3,w 2 (.mv l0)] []) .ret))))),res:=[(2,none)]}
end Go.Ev.K
namespace Go.Ev
class jE [Lib]:Prop where
 pR:Lib.fs N.cI=some K.cI
 pS:Lib.fs N.fY=some K.fY
 ja:Lib.fs N.bz=some K.bz
 wI:Lib.fs N.iD=some K.iD
 wJ:Lib.fs N.kI=some K.kI
 gV:Lib.fs N.bg=some K.bg
 eL:Lib.fs N.aQ=some K.aQ
 qT:Lib.fs N.im=some K.im
 tH:Lib.fs N.fQ=some K.fQ
 kh:Lib.fs N.bI=some K.bI
 cJ:Lib.fs N.ay=some K.ay
 qU:Lib.fs N.cR=some K.cR
 tJ:Lib.fs N.gL=some K.gL
 iN:Lib.fs N.bN=some K.bN
 jF:Lib.fs N.cm=some K.cm
namespace K
variable [Lib] [jE]
theorem pR:Lib.fs N.cI=some K.cI:=jE.pR
theorem pS:Lib.fs N.fY=some K.fY:=jE.pS
theorem ja:Lib.fs N.bz=some K.bz:=jE.ja
theorem wI:Lib.fs N.iD=some K.iD:=jE.wI
theorem wJ:Lib.fs N.kI=some K.kI:=jE.wJ
theorem gV:Lib.fs N.bg=some K.bg:=jE.gV
theorem eL:Lib.fs N.aQ=some K.aQ:=jE.eL
theorem qT:Lib.fs N.im=some K.im:=jE.qT
theorem tH:Lib.fs N.fQ=some K.fQ:=jE.tH
theorem kh:Lib.fs N.bI=some K.bI:=jE.kh
theorem cJ:Lib.fs N.ay=some K.ay:=jE.cJ
theorem qU:Lib.fs N.cR=some K.cR:=jE.qU
theorem tJ:Lib.fs N.gL=some K.gL:=jE.tJ
theorem iN:Lib.fs N.bN=some K.bN:=jE.iN
theorem jF:Lib.fs N.cm=some K.cm:=jE.jF
end K
end Go.Ev
namespace Go.Ev.K
open Go.Ev
def aI:C:=(.its [u (.bin .lss v5 v4)] [] 0 .skip (.exit 0) (.seq (.blk 1 (.seq (.reg [m v5,w 3 (.mv l0)] []) (.ite [m v1,m v0,m v3,a 4 l1 l0,h 4 l0,u (.cw l4 0 [] [.l 0])] [] 0 (.seq (.reg [m v3,w 2 (.mv l0)] []) .ret) .skip))) (.reg [u (.bin .add v5 (.i 1)),w 5 (.mv l0)] [])))
def cK:C:= .loop true [2,3] K.aI
def ak:Fn:={ nargs:=2,vars:=[0,1,4,5,7,8],body:=(.seq (.reg [w 2 (.mv (.i 0))] []) (.seq (.seq (.reg [m v0,w 4 (.ln l0),w 5 (.mv (.i 0))] []) (.blk 0 K.cK)) (.seq (.reg [w 2 (.mv (.i (-1)))] []) .ret))),res:=[(2,none)]}
def az:Fn:={ nargs:=4,vars:=[0,1,2,3,4,5],body:=(.seq (.reg [w 4 (.bx v0 4),w 5 (.mv (.b false))] []) (.seq (.reg [f 1 v4,g l0,g v1,u (.bin .eql l1 l0),m l0,y 0 true (.ld v2 4 true),y 1 true (.ld v4 4 true),y 2 true (.ca N.bM 0 [0] [.l 1,.l 0]),u (.pk l3 l0 (.b false)),m l0,y 0 true (.ld v3 1 false),y 1 true (.fa v4 2),y 2 true (.ld l0 1 false),y 3 true (.ia l2 l0 2),y 4 true (.ld l0 2 true),y 5 true (.ld v3 1 false),y 6 true (.ld v1 1 false),y 7 true (.ia l1 l0 2),y 8 true (.fa l0 0),y 9 true (.ld l0 1 false),y 10 true (.fa v4 3),y 11 true (.ld l0 1 false),y 12 true (.bin .sub l2 l0),y 13 true (.ld v3 1 false),y 14 true (.ld v1 1 false),y 15 true (.ia l1 l0 2),y 16 true (.fa l0 1),y 17 true (.ld l0 1 false),y 18 true (.bin .sub l0 (.i 1)),y 19 true (.bd [.t (.int .i64 (0)),.t (.int .i64 (0))] [(0,1,.l 6),(1,1,.l 0)]),y 20 true (.eqk (.ints 2) false (.l 15) l0),u (.pk (.l 21) l0 (.b false)),w 5 (.mv l0)] []) .ret)),res:=[(5,none)]}
def bM:Fn:={ nargs:=2,vars:=[0,1,2,3,4],body:=(.seq (.reg [w 2 (.bx v0 4),w 3 (.bx v1 4),w 4 (.mv (.b false))] []) (.seq (.reg [f 2 v2,g l0,f 1 v3,g l0,a 1 l2 l0,g l0,u (.un .not l0),m l0,y 0 true (.fa v2 3),y 1 true (.ld l0 1 false),y 2 true (.fa v3 2),y 3 true (.ld l0 1 false),y 4 true (.ia l2 l0 1),y 5 true (.ld l0 1 false),y 6 true (.un .not l0),u (.pk l7 l0 (.b false)),w 4 (.mv l0)] []) .ret)),res:=[(4,none)]}
def ju:Fn:={ nargs:=0,vars:=[0],body:=(.seq (.reg [w 0 (.al [.t (.int .i64 (0)),.t (.int .i64 (0)),.t (.int .i64 (0))] [])] []) (.seq (.reg [u (.bd [.t (.int .i64 (0)),.t (.int .i64 (0)),.t (.int .i64 (0))] [(0,1,.i 2),(1,1,.i 3),(2,1,.i 4)]),u (.st v0 l0 3 [])] []) .ret)),res:=[(0,some (3,true))]}
def dD:Fn:={ nargs:=2,vars:=[0,1,2,3,4],body:=(.seq (.reg [w 2 (.bx v0 2),w 3 (.bx v1 2),w 4 (.mv (.b false))] []) (.seq (.reg [f 0 v2,g l0,f 0 v3,g l0,u (.bin .lss l2 l0),m l0,y 0 false (.fa v2 0),y 1 false (.ld l0 1 false),y 2 false (.fa v3 0),y 3 false (.ld l0 1 false),y 4 false (.bin .eql l2 l0),y 5 false (.mv l0),y 0 true (.fa v2 1),y 1 true (.ld l0 1 false),y 2 true (.fa v3 1),y 3 true (.ld l0 1 false),y 4 true (.bin .lss l2 l0),y 11 false (.pk l5 l0 (.b false)),u (.pk (.l 12) (.b true) l0),w 4 (.mv l0)] []) .ret)),res:=[(4,none)]}
end Go.Ev.K
namespace Go.Ev
class oe [Lib]:Prop where
 bO:Lib.fs N.ak=some K.ak
 jb:Lib.fs N.az=some K.az
 jc:Lib.fs N.bM=some K.bM
 tK:Lib.fs N.ju=some K.ju
 ly:Lib.fs N.dD=some K.dD
namespace K
variable [Lib] [oe]
theorem bO:Lib.fs N.ak=some K.ak:=oe.bO
theorem jb:Lib.fs N.az=some K.az:=oe.jb
theorem jc:Lib.fs N.bM=some K.bM:=oe.jc
theorem tK:Lib.fs N.ju=some K.ju:=oe.tK
theorem ly:Lib.fs N.dD=some K.dD:=oe.ly
end K
end Go.Ev
namespace Go.Ev
open Go
variable [Lib] [cu] [bP] [gG] [gM] [jO] [fW] [fS] [iR] [gF] [eX] [dT] [jD] [iW] [mZ] [lZ] [jP] [jE] [oe]
structure Esc where
 safe:List Int
 bad:List Int
 shut:List Int
 limit:Int
instance : Dat Esc := ⟨⟨[], [], [], 0⟩⟩
abbrev Esc.e(e:Esc):T:= .agg [tL e.safe,tL e.bad,tL e.shut,tI e.limit]
structure Esc.ok(m:aK)(e:Esc):Prop where
 s:zB e.safe m.places.length=true
 b:zB e.bad m.places.length=true
 h:zB e.shut m.roads.length=true
 l0:0≤e.limit
 l1:e.limit≤2147483648
theorem Esc.ok.sl{m:aK}{e:Esc}(hm:m.ok)(h:e.ok m):e.safe.length≤64:=by
 have:=rv h.s;have:=hm.np;omega
theorem Esc.ok.bl{m:aK}{e:Esc}(hm:m.ok)(h:e.ok m):e.bad.length≤64:=by
 have:=rv h.b;have:=hm.np;omega
theorem Esc.ok.hl{m:aK}{e:Esc}(hm:m.ok)(h:e.ok m):e.shut.length≤128:=by
 have:=rv h.h;have:=hm.nr;omega
abbrev rP(m:aK)(k:Nat)(back:Bool):Int:=gk m k back 2 3 4
theorem aa7{l s:Int}(l0:1≤l)(l1:l≤100000)(h:s=2∨s=3∨s=4):1≤(10*l+s-1).tdiv s∧(10*l+s-1).tdiv s≤500001:=by
 rcases h with rfl | rfl | rfl
 · rw[Int.tdiv_eq_ediv_of_nonneg (by omega)];omega
 · rw[Int.tdiv_eq_ediv_of_nonneg (by omega)];omega
 · rw[Int.tdiv_eq_ediv_of_nonneg (by omega)];omega
theorem nD{m:aK}(h:m.ok)(k:Nat)(hk:k<m.roads.length)(back:Bool):rP m k back= -1∨1≤rP m k back∧rP m k back≤500001:=by
 have l0:=(h.rs _ (ah hk)).l0
 have l1:=(h.rs _ (ah hk)).l1
 unfold rP gk
 simp only
 split
 · exact .inl rfl
 · refine .inr (aa7 l0 l1 ?_)
   repeat' split
   all_goals first | exact .inl rfl | exact .inr (.inl rfl) | exact .inr (.inr rfl)
theorem O1:aG 0 N.ju [] []=some (.t (.agg [tI 2,tI 3,tI 4]),[]):=by
 refine av K.tK rfl ?_
 simp (disch:=omega) only[go_sem,K.ju,↓reduceIte,Nat.reduceAdd,Nat.reduceSub]
theorem pT{m:aK}(h:m.ok)(k:Nat)(hk:k<m.roads.length)(back:Bool):aG 0 N.gL [.t m.e,I k,B back] []=some (I (rP m k back),[]):=by
 refine av K.tJ rfl ?_
 have hv:=kS h
 have hw:=KR h k hk back 2 3 4 (by omega) (by omega) (by omega) (by omega) (by omega) (by omega)
 have hs:=O1
 have nr:=h.nr
 obtain⟨places,roads⟩:=m
 simp only at*
 simp (disch:=omega) only[go_sem,K.gL,↓reduceIte,hv,hw,hs,Nat.reduceAdd,Nat.reduceSub]
theorem xE{m:aK}(hm:m.ok){e:Esc}(he:e.ok m):aG 0 N.fv [.t m.e,.t e.e] []=some (B true,[]):=by
 refine av K.qQ rfl ?_
 have hv:=kS hm
 have r1:=uS e.safe 0 (m.places.length-1) (by have:=he.sl hm;omega)
 have r2:=uS e.bad 0 (m.places.length-1) (by have:=he.bl hm;omega)
 have r3:=uS e.shut 0 (m.roads.length-1) (by have:=he.hl hm;omega)
 rw[E7,he.s]at r1
 rw[E7,he.b]at r2
 rw[E7,he.h]at r3
 have r4:=Bt e.limit 0 2147483648
 have:=he.l0
 have:=he.l1
 have np:=hm.np
 have nr:=hm.nr
 rw[decide_eq_true (by omega)]at r4
 obtain⟨places,roads⟩:=m
 obtain⟨safe,bad,shut,limit⟩:=e
 simp only at*
 simp (disch:=omega) only[go_sem,K.fv,↓reduceIte,hv,r1,r2,r3,r4,Nat.reduceAdd,Nat.reduceSub]
theorem DI{m:aK}(hm:m.ok){e:Esc}(he:e.ok m)(p:Nat)(hp:p<m.places.length):aG 0 N.im [.t m.e,.t e.e,I p] []=some (B true,[]):=by
 refine av K.qT rfl ?_
 have hv:=xE hm he
 have r4:=Bt p 0 (m.places.length-1)
 have np:=hm.np
 rw[decide_eq_true (by omega)]at r4
 obtain⟨places,roads⟩:=m
 obtain⟨safe,bad,shut,limit⟩:=e
 simp only at*
 simp (disch:=omega) only[go_sem,K.im,↓reduceIte,hv,r4,Nat.reduceAdd,Nat.reduceSub]
theorem O2(x y:Lab):aG 0 N.dD [.t (.agg [tI x.t,tI x.r]),.t (.agg [tI y.t,tI y.r])] []=some (B (pM x y),[]):=by
 refine av K.ly rfl ?_
 obtain⟨a,b⟩:=x
 obtain⟨c,d⟩:=y
 unfold pM
 simp only
 by_cases c1:a<c<;>by_cases c2:a=c<;>by_cases c3:b<d
 all_goals simp (disch:=omega) only[go_sem,K.dD,↓reduceIte,c1,c2,c3,decide_true,decide_false,Bool.or_true,Bool.or_false,Bool.and_true,Bool.and_false,Bool.true_or,Bool.false_or,Bool.and_self,Bool.or_self,Int.lt_irrefl,Nat.reduceAdd,Nat.reduceSub]
abbrev Edge.e(e:Edge):T:= .agg [tI e.r,tI e.a,tI e.b,tI e.t]
abbrev Lab.e(x:Lab):T:= .agg [tI x.t,tI x.r]
abbrev mq(E:List Edge)(ep:Nat):Obj:= .arr 4 false ep ((E.map Edge.e).map .t)
abbrev je(l:List Bool):Obj:= .arr 1 false 0 ((l.map T.bool).map .t)
abbrev M5(L:List Lab):Obj:= .arr 2 false 0 ((L.map Lab.e).map .t)
abbrev zD(i:Nat)(E:List Edge)(ep n:Nat):List D:=[I n,.ref i ep E.length,.ref (i+1) 0 n,.ref (i+2) 0 n]
def uB(sf bd:List Bool)(e:Edge):Bool:= !(nth sf e.a)&& !(nth bd e.b)
theorem DJ(E:List Edge)(sf bd:List Bool)(ep n:Nat)(hs:sf.length=n)(hb:bd.length=n)(hn:n≤64)(e:Edge)(he:e.ok n):
 aG 0 N.bM [.agg (zD 0 E ep n),.t e.e] [mq E ep,je sf,je bd]=some (B (uB sf bd e),[mq E ep,je sf,je bd]):=by
 refine av K.jc rfl ?_
 obtain⟨r,a,b,t⟩:=e
 obtain⟨h1,h2,h3,h4⟩:=he
 simp only at h1 h2 h3 h4
 unfold uB
 simp only
 cases hx:nth sf a<;>cases hy:nth bd b
 all_goals simp (disch:=omega) only[go_sem,K.bM,↓reduceIte,hx,hy,Bool.not_true,Bool.not_false,Bool.false_and,Bool.true_and,Nat.reduceAdd,Nat.reduceSub]
def oh(F:Int)(sf:List Bool)(n j:Nat):List Lab:=(List.range n).map fun p=>if decide (p<j)&& !(nth sf p)then⟨F,0⟩else⟨0,0⟩
theorem oK(F:Int)(sf:List Bool)(n j:Nat):(oh F sf n j).length=n:=by simp[oh]
theorem kV(F:Int)(sf:List Bool)(n j:Nat){p:Nat}(hp:p<n):nth (oh F sf n j) p=if decide (p<j)&& !(nth sf p)then⟨F,0⟩else⟨0,0⟩:=by
 refine b8 ?_
 unfold oh
 rw[List.getElem?_map,List.getElem?_range hp]
 rfl
theorem Ix(F:Int)(sf:List Bool)(n:Nat):(oh F sf n 0).map Lab.e=List.replicate n (.agg [tI 0,tI 0]):=by
 unfold oh
 refine List.ext_getElem? fun i=>?_
 simp only[List.getElem?_map,List.getElem?_replicate]
 by_cases hi:i<n
 · rw[List.getElem?_range hi];simp[hi]
 · rw[List.getElem?_eq_none (by simpa using hi)];simp[hi]
theorem Iy{F:Int}{sf:List Bool}{n j:Nat}(hj:j<n)(h:nth sf j=false):oh F sf n (j+1)=(oh F sf n j).set j ⟨F,0⟩:=by
 refine List.ext_getElem? fun i=>?_
 by_cases hi:i=j
 · subst hi
   rw[List.getElem?_set_self (by rw[oK];exact hj),ff (by rw[oK];exact hj),kV F sf n _ hj]
   simp[h]
 · rw[List.getElem?_set_ne (by omega)]
   unfold oh
   rw[List.getElem?_map,List.getElem?_map]
   by_cases hn:i<n
   · rw[List.getElem?_range hn]
     have:(decide (i<j+1))=decide (i<j):=decide_eq_decide.2 (by omega)
     simp only[Option.map_some,this]
   · rw[List.getElem?_eq_none (by simpa using hn)];rfl
theorem Iz{F:Int}{sf:List Bool}{n j:Nat}(h:nth sf j=true):oh F sf n (j+1)=oh F sf n j:=by
 unfold oh
 refine List.map_congr_left fun p hp=>?_
 by_cases c:p=j
 · subst c;simp[h]
 · have:(decide (p<j+1))=decide (p<j):=by
    by_cases d:p<j
    · simp[d];omega
    · simp[d];omega
   rw[this]
theorem LU(L:List Lab)(j:Nat)(a b:Int):(List.map D.t (List.map Lab.e L)).set j (D.t (T.agg [T.int .i64 a,T.int .i64 b]))=List.map D.t (List.map Lab.e (L.set j ⟨a,b⟩)):=by
 simp only[List.map_set]
abbrev lz:Int:=1152921504606846976
theorem O3(E:List Edge)(sf bd:List Bool)(ep n:Nat)(hs:sf.length=n)(hb:bd.length=n)(hn:n≤64)(z0 z2 z4 z5 z6 z7 z10 z11 z12:D):
 exS aG K.lI ⟨[z0,.bp 3 0,z2,.ref 4 0 n,z4,z5,z6,z7,I n,I 0,z10,z11,z12],[mq E ep,je sf,je bd,.box (zD 0 E ep n),M5 (oh lz sf n 0)]⟩=
  some (.exit 0,⟨[.und,.bp 3 0,.und,.ref 4 0 n,.und,.und,.und,.und,I n,I n,.und,.und,.und],[mq E ep,je sf,je bd,.box (zD 0 E ep n),M5 (oh lz sf n n)]⟩):=by
 refine b7 (fun j=>⟨[.und,.bp 3 0,.und,.ref 4 0 n,.und,.und,.und,.und,I n,I j,.und,.und,.und],[mq E ep,je sf,je bd,.box (zD 0 E ep n),M5 (oh lz sf n j)]⟩) n rfl ?_ ?_ (by simp)
 · intro j hj
   have ln:=oK lz sf n j
   have hx:=kV lz sf n j hj
   rw[decide_eq_false (Nat.lt_irrefl j)]at hx
   simp only[Bool.false_and,Bool.false_eq_true,↓reduceIte]at hx
   cases hc:nth sf j with
   | true=>
     rw[Iz hc]
     simp (disch:=omega) only[go_sem,K.fR,↓reduceIte,hc,Bool.not_true,Nat.reduceAdd,Nat.reduceSub]
   | false=>
     rw[Iy hj hc]
     generalize oh lz sf n j=L at*
     simp (disch:=omega) only[go_sem,K.fR,↓reduceIte,hc,hx,Bool.not_false,LU,Nat.reduceAdd,Nat.reduceSub]
 · have ln:=oK lz sf n n
   simp (disch:=omega) only[go_sem,K.fR,↓reduceIte,Nat.reduceAdd,Nat.reduceSub]
theorem LV(F:Int)(u:Edge→Bool)(E:List Edge)(L:List Lab)(c:Bool)(j:Nat):wH F u E L c (j+1)=(MY F u (wH F u E L c j).1 (nth E j),(wH F u E L c j).2||Ir F u (wH F u E L c j).1 (nth E j)):=rfl
theorem O4(E:List Edge)(sf bd:List Bool)(ep n:Nat)(hs:sf.length=n)(hb:bd.length=n)(hn:n≤64)(hE:∀e∈E,e.ok n)(hl:E.length≤1000)(L:List Lab)(hL:Is lz n L)(z0 z2 z4 z6 z7 z8 z9:D):
 exS aG K.lJ ⟨[z0,.bp 3 0,z2,.ref 4 0 n,z4,B false,z6,z7,z8,z9,.ref 0 ep E.length,I E.length,I 0],[mq E ep,je sf,je bd,.box (zD 0 E ep n),M5 L]⟩=
  some (.exit 4,⟨[.und,.bp 3 0,.und,.ref 4 0 n,.und,B (wH lz (uB sf bd) E L false E.length).2,.und,.und,.und,.und,.ref 0 ep E.length,I E.length,I E.length],[mq E ep,je sf,je bd,.box (zD 0 E ep n),M5 (wH lz (uB sf bd) E L false E.length).1]⟩):=by
 refine b7 (fun j=>⟨[.und,.bp 3 0,.und,.ref 4 0 n,.und,B (wH lz (uB sf bd) E L false j).2,.und,.und,.und,.und,.ref 0 ep E.length,I E.length,I j],[mq E ep,je sf,je bd,.box (zD 0 E ep n),M5 (wH lz (uB sf bd) E L false j).1]⟩) E.length rfl ?_ ?_ (by simp)
 · intro j hj
   rw[LV]
   have li:=(AV hE hL (u:=uB sf bd) j (by omega)).1
   generalize (wH lz (uB sf bd) E L false j).1=M at*
   generalize (wH lz (uB sf bd) E L false j).2=c at*
   have he:=hE _ (ah hj)
   have us:=DJ E sf bd ep n hs hb hn _ he
   unfold MY Ir qP
   generalize he':nth E j=e at*
   generalize uB sf bd e=ub at*
   obtain⟨er,a,b,t⟩:=e
   obtain⟨h1,h2,h3,h4⟩:=he
   simp only at h1 h2 h3 h4
   have ls:=O2 ⟨(nth M b).t+t,(nth M b).r+1⟩ (nth M a)
   have q1:=li.t0 b h2
   have q2:=li.t1 b h2
   have q3:=li.r0 b h2
   have q4:=li.r1 b h2
   have ml:=li.l
   generalize hx:nth M a=x at*
   generalize hy:nth M b=y at*
   obtain⟨xt,xr⟩:=x
   obtain⟨yt,yr⟩:=y
   simp only at*
   generalize hlv:pM ⟨yt+t,yr+1⟩ ⟨xt,xr⟩=lv at*
   have e1:(M.map Lab.e)[a]?=some (Lab.e ⟨xt,xr⟩):=by rw[← hx];exact eU _ (by omega)
   cases ub with
   | false=>
     simp (disch:=omega) only[go_sem,K.dz,↓reduceIte,us,ls,e1,hx,hy,he',Bool.false_and,Bool.or_false,Nat.reduceAdd,Nat.reduceSub]
   | true=>
     by_cases hf:yt<1152921504606846976
     · cases lv with
       | false=>
         simp (disch:=omega) only[go_sem,K.dz,↓reduceIte,us,ls,e1,hx,hy,he',hf,decide_true,Bool.and_false,Bool.true_and,Bool.or_false,Nat.reduceAdd,Nat.reduceSub]
       | true=>
         simp (disch:=omega) only[go_sem,K.dz,↓reduceIte,us,ls,e1,hx,hy,he',hf,decide_true,Bool.and_true,Bool.true_and,Bool.or_true,LU,Nat.reduceAdd,Nat.reduceSub]
     · simp (disch:=omega) only[go_sem,K.dz,↓reduceIte,us,ls,e1,hx,hy,he',hf,decide_false,Bool.and_false,Bool.false_and,Bool.or_false,Nat.reduceAdd,Nat.reduceSub]
 · simp (disch:=omega) only[go_sem,K.dz,↓reduceIte,Nat.reduceAdd,Nat.reduceSub]
theorem Fo(F:Int)(hF:0≤F)(sf:List Bool)(n j:Nat):Is F n (oh F sf n j) where
 l:=oK F sf n j
 t0:=fun p hp=>by rw[kV F sf n j hp];split<;>simp<;>omega
 t1:=fun p hp=>by rw[kV F sf n j hp];split<;>simp<;>omega
 r0:=fun p hp=>by rw[kV F sf n j hp];split<;>simp
 r1:=fun p hp=>by rw[kV F sf n j hp];split<;>simp<;>omega
def ma(E:List Edge)(sf bd:List Bool)(n:Nat):List Lab:=LJ lz (uB sf bd) E (oh lz sf n n)
theorem O5(E:List Edge)(sf bd:List Bool)(ep n:Nat)(hs:sf.length=n)(hb:bd.length=n)(hn:n≤64)(hE:∀e∈E,e.ok n)(hl:E.length≤1000)(z0 z2 z4 z6 z7 z8 z9 z10 z11 z12:D):
 exS aG K.lK ⟨[z0,.bp 3 0,z2,.ref 4 0 n,z4,B true,z6,z7,z8,z9,z10,z11,z12],[mq E ep,je sf,je bd,.box (zD 0 E ep n),M5 (oh lz sf n n)]⟩=
  some (.exit 2,⟨[.und,.bp 3 0,.und,.ref 4 0 n,.und,B false,.und,.und,.und,.und,.und,.und,.und],[mq E ep,je sf,je bd,.box (zD 0 E ep n),M5 (ma E sf bd n)]⟩):=by
 refine(AA (fun L c=>⟨[.und,.bp 3 0,.und,.ref 4 0 n,.und,B c,.und,.und,.und,.und,.und,.und,.und],[mq E ep,je sf,je bd,.box (zD 0 E ep n),M5 L]⟩)
  (fun L=>(.exit 2,⟨[.und,.bp 3 0,.und,.ref 4 0 n,.und,B false,.und,.und,.und,.und,.und,.und,.und],[mq E ep,je sf,je bd,.box (zD 0 E ep n),M5 L]⟩))
  (fun L=>wH lz (uB sf bd) E L false E.length) (Is lz n) (OP lz) ?_ ?_ ?_ _ (Fo lz (by decide) sf n n) rfl).1
 · intro L hL
   have h:=AV hE hL (u:=uB sf bd) E.length (Nat.le_refl _)
   exact⟨h.1,h.2.2.1⟩
 · intro L hL
   have l3:=O4 E sf bd ep n hs hb hn hE hl L hL
   have ln:=hL.l
   simp (disch:=omega) only[go_sem,K.iM,↓reduceIte,l3,Nat.reduceAdd,Nat.reduceSub]
 · intro L hL
   refine⟨?_,by simp⟩
   simp (disch:=omega) only[go_sem,K.iM,↓reduceIte,Nat.reduceAdd,Nat.reduceSub]
theorem LW(E:List Edge)(sf bd:List Bool)(n:Nat)(hE:∀e∈E,e.ok n):(ma E sf bd n).length=n:=by
 unfold ma LJ
 exact(AT (Is lz n) (fun l h=>(AV hE h (u:=uB sf bd) E.length (Nat.le_refl _)).1) _ _ (Fo lz (by decide) sf n n)).l
theorem O6(E:List Edge)(sf bd:List Bool)(ep n:Nat)(hs:sf.length=n)(hb:bd.length=n)(hn:n≤64)(hE:∀e∈E,e.ok n)(hl:E.length≤1000):
 aG 0 N.cm [.agg (zD 0 E ep n)] [mq E ep,je sf,je bd]=some (.t (.sl ((ma E sf bd n).map Lab.e)),[mq E ep,je sf,je bd]):=by
 refine av K.jF rfl ?_
 have l1:=O3 E sf bd ep n hs hb hn
 have l2:=O5 E sf bd ep n hs hb hn hE hl
 have ln:=LW E sf bd n hE
 have l0:=oK lz sf n n
 generalize ma E sf bd n=r at*
 have z:=Ix lz sf n
 have z2:List.replicate n (D.t (T.agg [tI 0,tI 0]))=((oh lz sf n 0).map Lab.e).map D.t:=by rw[z,List.map_replicate]
 simp (disch:=omega) only[go_sem,K.cm,↓reduceIte,l1,l2,z2,Nat.reduceAdd,Nat.reduceSub]
theorem Hd(E:List Edge)(sf bd:List Bool)(ep n:Nat)(hs:sf.length=n)(hb:bd.length=n)(hn:n≤64)(L:List Lab)(hL:Is lz n L)(p:Nat)(hp:p<n)(e:Edge)(he:e.ok n):
 aG 0 N.az [.t e.e,.bp 0 0,.bp 1 0,.bp 2 0] [.box [I p],.box (zD 3 E ep n),.box [.t (.sl (L.map Lab.e))],mq E ep,je sf,je bd]=
  some (B (vj (uB sf bd) L p e),[.box [I p],.box (zD 3 E ep n),.box [.t (.sl (L.map Lab.e))],mq E ep,je sf,je bd]):=by
 refine av K.jb rfl ?_
 have us:=DJ E sf bd ep n hs hb hn e he
 unfold vj
 obtain⟨r,a,b,t⟩:=e
 obtain⟨h1,h2,h3,h4⟩:=he
 simp only at h1 h2 h3 h4
 simp only at*
 generalize uB sf bd ⟨r,a,b,t⟩=ub at*
 have ml:=hL.l
 have q1:=hL.t0 b h2
 have q2:=hL.t1 b h2
 have q3:=hL.r0 b h2
 have q4:=hL.r1 b h2
 have w1:=hL.t0 p hp
 have w2:=hL.t1 p hp
 have w3:=hL.r0 p hp
 have w4:=hL.r1 p hp
 have e1:(L.map Lab.e)[b]?=some (nth L b).e:=eU _ (by omega)
 have e2:(L.map Lab.e)[p]?=some (nth L p).e:=eU _ (by omega)
 generalize nth L b=x at*
 generalize nth L p=y at*
 obtain⟨xt,xr⟩:=x
 obtain⟨yt,yr⟩:=y
 simp only[Lab.mk.injEq]at*
 have fc:lz=1152921504606846976:=rfl
 have v1:IntKind.i64.wrap (yt-t)=yt-t:=sO (by omega) (by omega)
 have v2:IntKind.i64.wrap (yr-1)=yr-1:=sO (by omega) (by omega)
 by_cases c1:a=p
 · subst c1
   cases ub with
   | false=>simp (disch:=omega) only[go_sem,K.az,↓reduceIte,us,Bool.and_false,Bool.false_and,decide_true,Bool.true_and,Nat.reduceAdd,Nat.reduceSub]
   | true=>
     by_cases c2:xt=yt-t<;>by_cases c3:xr=yr-1
     all_goals simp (disch:=omega) only[go_sem,K.az,↓reduceIte,us,e1,e2,v1,v2,c2,c3,decide_true,Bool.and_self,decide_false,Bool.and_false,Bool.true_and,and_self,and_true,and_false,Nat.reduceAdd,Nat.reduceSub]
 · simp (disch:=omega) only[go_sem,K.az,↓reduceIte,us,c1,decide_false,Bool.false_and,Nat.reduceAdd,Nat.reduceSub]
theorem IA(E:List Edge)(sf bd:List Bool)(ep n:Nat)(hs:sf.length=n)(hb:bd.length=n)(hn:n≤64)(hE:∀e∈E,e.ok n)(hl:E.length≤1000)(L:List Lab)(hL:Is lz n L)(p:Nat)(hp:p<n):
 aG 0 N.ak [.ref 0 ep E.length,.fn N.az [.bp 1 0,.bp 2 0,.bp 3 0]] [mq E ep,.box [I p],.box [I n,.ref 0 ep E.length,.ref 4 0 n,.ref 5 0 n],.box [.t (.sl (L.map Lab.e))],je sf,je bd]=
  some (I (match (List.range E.length).find? (fun j=>vj (uB sf bd) L p (nth E j))with | some j=>(j:Int) | none=> -1),[mq E ep,.box [I p],.box [I n,.ref 0 ep E.length,.ref 4 0 n,.ref 5 0 n],.box [.t (.sl (L.map Lab.e))],je sf,je bd]):=by
 refine av K.bO rfl ?_
 have loop:∀z2 z3:D,exS aG K.cK ⟨[.ref 0 ep E.length,.fn N.az [.bp 1 0,.bp 2 0,.bp 3 0],z2,z3,I E.length,I 0],[mq E ep,.box [I p],.box [I n,.ref 0 ep E.length,.ref 4 0 n,.ref 5 0 n],.box [.t (.sl (L.map Lab.e))],je sf,je bd]⟩=
  some (match (List.range E.length).find? (fun j=>vj (uB sf bd) L p (nth E j))with
   | some j=>(.ret,⟨[.ref 0 ep E.length,.fn N.az [.bp 1 0,.bp 2 0,.bp 3 0],I j,I j,I E.length,I j],[mq E ep,.box [I p],.box [I n,.ref 0 ep E.length,.ref 4 0 n,.ref 5 0 n],.box [.t (.sl (L.map Lab.e))],je sf,je bd]⟩)
   | none=>(.exit 0,⟨[.ref 0 ep E.length,.fn N.az [.bp 1 0,.bp 2 0,.bp 3 0],.und,.und,I E.length,I E.length],[mq E ep,.box [I p],.box [I n,.ref 0 ep E.length,.ref 4 0 n,.ref 5 0 n],.box [.t (.sl (L.map Lab.e))],je sf,je bd]⟩)):=by
  intro z2 z3
  refine bY (fun j=>⟨[.ref 0 ep E.length,.fn N.az [.bp 1 0,.bp 2 0,.bp 3 0],.und,.und,I E.length,I j],[mq E ep,.box [I p],.box [I n,.ref 0 ep E.length,.ref 4 0 n,.ref 5 0 n],.box [.t (.sl (L.map Lab.e))],je sf,je bd]⟩) E.length (fun j=>vj (uB sf bd) L p (nth E j)) _ _ rfl ?_ ?_ ?_ (by simp)
  · intro j hj hp'
    have b1:=Hd E sf bd ep n hs hb hn L hL p hp _ (hE _ (ah hj))
    rw[hp']at b1
    simp (disch:=omega) only[go_sem,K.aI,↓reduceIte,b1,Nat.reduceAdd,Nat.reduceSub]
  · intro j hj hp'
    have b1:=Hd E sf bd ep n hs hb hn L hL p hp _ (hE _ (ah hj))
    rw[hp']at b1
    refine⟨?_,by simp⟩
    simp (disch:=omega) only[go_sem,K.aI,↓reduceIte,b1,Nat.reduceAdd,Nat.reduceSub]
  · simp (disch:=omega) only[go_sem,K.aI,↓reduceIte,Nat.reduceAdd,Nat.reduceSub]
 cases hf:(List.range E.length).find? (fun j=>vj (uB sf bd) L p (nth E j))with
 | some j=>
   rw[hf]at loop
   simp (disch:=omega) only[go_sem,K.ak,↓reduceIte,loop,Nat.reduceAdd,Nat.reduceSub]
 | none=>
   rw[hf]at loop
   simp (disch:=omega) only[go_sem,K.ak,↓reduceIte,loop,Nat.reduceAdd,Nat.reduceSub]
def adE(u:Edge→Bool)(E:List Edge)(L:List Lab)(p:Nat):Int:=match (List.range E.length).find? (fun j=>vj u L p (nth E j))with | some j=>(j:Int) | none=> -1
theorem qV:∀ {i j:Nat},i≠j→eqB i j=false
 | 0,0,h=>absurd rfl h
 | 0,_+1,_=>rfl
 | _+1,0,_=>rfl
 | i+1,j+1,h=>qV (i:=i) (j:=j) (by omega)
theorem O7(E:List Edge)(sf bd:List Bool)(ep n:Nat)(hs:sf.length=n)(hb:bd.length=n)(hn:n≤64)(hE:∀e∈E,e.ok n)(hl:E.length≤1000)(L:List Lab)(hL:Is lz n L)(p:Nat)(hp:p<n)
 (H:af) (i:Nat) (h0:H[0]?=some (mq E ep)) (h1:H[1]?=some (je sf)) (h2:H[2]?=some (je bd)) (h3:H[3]?=some (.box (zD 0 E ep n))) (h6:H[6]?=some (.box [.t (.sl (L.map Lab.e))])) (hi:H[i]?=some (.box [I p])) (i6:7≤i):
 Gl H aG N.ak 0 [0] [.ref 0 ep E.length,.fn N.az [.bp i 0,.bp 3 0,.bp 6 0]]=some (I (adE (uB sf bd) E L p),H):=by
 have ix:=IA E sf bd ep n hs hb hn hE hl L hL p hp
 have a0:eqB i 0=false:=qV (by omega)
 have b0:eqB 0 i=false:=qV (by omega)
 have a1:eqB i 1=false:=qV (by omega)
 have b1:eqB 1 i=false:=qV (by omega)
 have a2:eqB i 2=false:=qV (by omega)
 have b2:eqB 2 i=false:=qV (by omega)
 have a3:eqB i 3=false:=qV (by omega)
 have b3:eqB 3 i=false:=qV (by omega)
 have a6:eqB i 6=false:=qV (by omega)
 have b6:eqB 6 i=false:=qV (by omega)
 have sel:reach H 3 (ed [] (xL 8 [.ref 0 ep E.length,.fn N.az [.bp i 0,.bp 3 0,.bp 6 0]]))=[0,i,3,6,1,2]:=by
  have s0:ed [] (xL 8 [.ref 0 ep E.length,.fn N.az [.bp i 0,.bp 3 0,.bp 6 0]])=[0,i,3,6]:=by
   simp (disch:=omega) only[go_sem,a0,a1,a2,a3,a6,b0,b1,b2,b3,b6]
  have s1:ed [0,i,3,6] (kK H [0,i,3,6])=[0,i,3,6,1,2]:=by
   have:kK H [0,i,3,6]=[0,1,2]:=by
    simp only[kK,List.flatMap_cons,List.flatMap_nil,h0,h3,h6,hi]
    rw[show List.flatMap (ids depth) (mq E ep).ds=[]from xg 8 _]
    rfl
   rw[this]
   simp (disch:=omega) only[go_sem,a0,a1,a2,a3,a6,b0,b1,b2,b3,b6]
  have s2:ed [0,i,3,6,1,2] (kK H [0,i,3,6,1,2])=[0,i,3,6,1,2]:=by
   have:kK H [0,i,3,6,1,2]=[0,1,2]:=by
    simp only[kK,List.flatMap_cons,List.flatMap_nil,h0,h1,h2,h3,h6,hi]
    rw[show List.flatMap (ids depth) (mq E ep).ds=[]from xg 8 _,show List.flatMap (ids depth) (je sf).ds=[]from xg 8 _,show List.flatMap (ids depth) (je bd).ds=[]from xg 8 _]
    rfl
   rw[this]
   simp (disch:=omega) only[go_sem,a0,a1,a2,a3,a6,b0,b1,b2,b3,b6]
  simp only[s0,reach,s1,s2]
 have pk:pick H [0,i,3,6,1,2]=some [mq E ep,.box [I p],.box (zD 0 E ep n),.box [.t (.sl (L.map Lab.e))],je sf,je bd]:=by
  simp only[pick,h0,h1,h2,h3,h6,hi,Option.bind_some,Option.map_some]
 have ar:oq H [0] 0 [.ref 0 ep E.length,.fn N.az [.bp i 0,.bp 3 0,.bp 6 0]]=some [.ref 0 ep E.length,.fn N.az [.bp i 0,.bp 3 0,.bp 6 0]]:=by
  simp (disch:=omega) only[go_sem]
 have fz:cC H [0] 0 [.ref 0 ep E.length,.fn N.az [.bp i 0,.bp 3 0,.bp 6 0]]=[]:=by
  simp (disch:=omega) only[go_sem]
 have rn:bW (ren (idxOf [0,i,3,6,1,2]) 8) [.ref 0 ep E.length,.fn N.az [.bp i 0,.bp 3 0,.bp 6 0]]=some [.ref 0 ep E.length,.fn N.az [.bp 1 0,.bp 2 0,.bp 3 0]]:=by
  simp (disch:=omega) only[go_sem,a0,a1,a2,a3,a6,b0,b1,b2,b3,b6]
 rw[Gp,Gq,ar,Option.bind_some,Gr,sel,Gs,rn,Option.bind_some,fz,Gt]
 simp only[pins]
 rw[pk,Option.bind_some,Gu]
 simp (disch:=omega) only[go_sem,a0,a1,a2,a3,a6,b0,b1,b2,b3,b6,Nat.reduceAdd,ix]
 rw[m9 h0,m9 hi,m9 h3,m9 h6,m9 h1,m9 h2]
 rfl
abbrev zO(E:List Edge)(sf bd:List Bool)(ep n:Nat)(L:List Lab)(W M:List Int)(Tl:af)(p:Nat):af:=
 mq E ep::je sf::je bd:: .box (zD 0 E ep n)::sA W::sA []:: .box [.t (.sl (L.map Lab.e))]::sA M::(Tl++[.box [I p]])
abbrev Fp(p0:Nat)(W M:List Int)(Tl:af):List D:=[.und,I p0,.bp 3 0,.ref 4 0 W.length,.und,.ref 7 0 M.length,.und,.bp 6 0,.bp (Tl.length+8) 0,.und,.und]
theorem IB(E:List Edge)(sf bd:List Bool)(ep n:Nat)(hs:sf.length=n)(hb:bd.length=n)(hn:n≤64)(hE:∀e∈E,e.ok n)(hl:E.length≤1000)(L:List Lab)(hL:Is lz n L)
 (p0 p:Nat) (hp:p<n) (W M:List Int) (hW:W.length≤1000000000) (hM:M.length≤1000000000) (Tl:af) (hc:nth sf p=false) (j:Nat) (hj:j<E.length) (hx:adE (uB sf bd) E L p=(j:Int)):
 fh false [0,4,6,9,10] (zO E sf bd ep n L W M Tl p).length (exS aG K.dK ⟨Fp p0 W M Tl,zO E sf bd ep n L W M Tl p⟩)=some ⟨Fp p0 (W++[((nth E j).r:Int)]) (M++[((nth E j).b:Int)]) (Tl++[.box [I (nth E j).b]]),zO E sf bd ep n L (W++[((nth E j).r:Int)]) (M++[((nth E j).b:Int)]) (Tl++[.box [I (nth E j).b]]) (nth E j).b⟩:=by
 have oi:=O7 E sf bd ep n hs hb hn hE hl L hL p hp (zO E sf bd ep n L W M Tl p) (Tl.length+8) rfl rfl rfl rfl rfl (by simp) (by omega)
 rw[hx]at oi
 have hG:∀x:Obj,(Tl++[x])[Tl.length]?=some x:=fun x=>by simp
 have hS:∀x y:Obj,(Tl++[x]).set Tl.length y=Tl++[y]:=fun x y=>by simp
 obtain⟨e1,e2,e3,e4⟩:=hE _ (ah hj)
 generalize hy:nth E j=y at*
 obtain⟨r,a,b,t⟩:=y
 simp only at*
 have hG2:∀x y:Obj,(Tl++[x]++[y])[Tl.length+1]?=some y:=fun x y=>by simp
 have hS2:∀x y z:Obj,(Tl++[x]++[y]).set (Tl.length+1) z=Tl++[x]++[z]:=fun x y z=>by simp
 simp (disch:=omega) only[go_sem,K.dK,↓reduceIte,Nat.reduceAdd,Nat.reduceSub,hG,hS,hG2,hS2,hc,oi,hy,Bool.not_false]
 simp only[List.map_append,List.map_cons,List.map_nil,List.length_append,List.length_cons,List.length_nil,Nat.add_assoc,Nat.reduceAdd,Int.natCast_add]
 simp only[Fp,zO,sA,List.map_append,List.map_cons,List.map_nil,List.length_append,List.length_cons,List.length_nil,Nat.add_assoc,Nat.reduceAdd]
theorem IC(l:List Edge):(List.range l.length).map (nth l)=l:=by
 refine List.ext_getElem? fun i=>?_
 rw[List.getElem?_map]
 by_cases hi:i<l.length
 · rw[List.getElem?_range hi,ff hi];rfl
 · rw[List.getElem?_eq_none (by simpa using hi),List.getElem?_eq_none (by omega)];rfl
theorem LX{u:Edge→Bool}{E:List Edge}{L:List Lab}{p:Nat}{e:Edge}(h:LL u E L p=some e):∃j:Nat,adE u E L p=(j:Int)∧j<E.length∧nth E j=e:=by
 unfold LL at h
 rw[← IC E,List.find?_map]at h
 unfold adE
 cases hf:(List.range E.length).find? (fun j=>vj u L p (nth E j))with
 | none=>
   have:(List.range E.length).find? (vj u L p ∘ nth E)=none:=hf
   rw[this]at h
   cases h
 | some j=>
   have:(List.range E.length).find? (vj u L p ∘ nth E)=some j:=hf
   rw[this]at h
   simp only[Option.map_some,Option.some.injEq]at h
   exact⟨j,rfl,List.mem_range.1 (List.mem_of_find?_eq_some hf),h⟩
abbrev vl(sf:List Bool)(p:Nat):Bool:=nth sf p
theorem LY(E:List Edge)(sf bd:List Bool)(ep n:Nat)(hs:sf.length=n)(hb:bd.length=n)(hn:n≤64)(hE:∀e∈E,e.ok n)(hl:E.length≤1000)(L:List Lab)(hZ:OQ lz n E (uB sf bd) (vl sf) L)
 (p0:Nat):∀(k p:Nat) (W M:List Int) (Tl:af),p<n→(nth L p).t<lz→(nth L p).r.toNat≤k→W.length+k≤1000000000→M.length+k≤1000000000→
 ∃(Tl':af) (q:Nat),mw false [0,4,6,9,10] (exS aG K.dK) ⟨Fp p0 W M Tl,zO E sf bd ep n L W M Tl p⟩=
  some (.exit 0,⟨Fp p0 (W++(oc (vl sf) (uB sf bd) E L k p).map (fun e=>(e.r:Int))) (M++(oc (vl sf) (uB sf bd) E L k p).map (fun e=>(e.b:Int))) Tl',
   zO E sf bd ep n L (W++(oc (vl sf) (uB sf bd) E L k p).map (fun e=>(e.r:Int))) (M++(oc (vl sf) (uB sf bd) E L k p).map (fun e=>(e.b:Int))) Tl' q⟩):=by
 have done:∀(p:Nat) (W M:List Int) (Tl:af),p<n→nth sf p=true→mw false [0,4,6,9,10] (exS aG K.dK) ⟨Fp p0 W M Tl,zO E sf bd ep n L W M Tl p⟩=some (.exit 0,⟨Fp p0 W M Tl,zO E sf bd ep n L W M Tl p⟩):=by
  intro p W M Tl hp hz
  refine eG ?_ (by simp)
  have hG:∀x:Obj,(Tl++[x])[Tl.length]?=some x:=fun x=>by simp
  have hS:∀x y:Obj,(Tl++[x]).set Tl.length y=Tl++[y]:=fun x y=>by simp
  simp (disch:=omega) only[go_sem,K.dK,↓reduceIte,Nat.reduceAdd,Nat.reduceSub,hG,hS,hz,Bool.not_true]
 intro k
 induction k with
 | zero=>
   intro p W M Tl hp hf hk hW hM
   have hz:nth sf p=true:=by
    by_cases hz:nth sf p=true
    · exact hz
    · obtain⟨e,_,e1,_,_,_,_,e5⟩:=rE hZ hE hp hf (by simpa using hz)
      have:=hZ.r0 e.b (hE e e1).2.1
      have:=hZ.r0 p hp
      omega
   refine⟨Tl,p,?_⟩
   simp only[oc,List.map_nil,List.append_nil]
   exact done p W M Tl hp hz
 | succ k ih=>
   intro p W M Tl hp hf hk hW hM
   by_cases hz:nth sf p=true
   · refine⟨Tl,p,?_⟩
     have:oc (vl sf) (uB sf bd) E L (k+1) p=[]:=by unfold oc;rw[if_pos hz]
     rw[this]
     simp only[List.map_nil,List.append_nil]
     exact done p W M Tl hp hz
   · obtain⟨e,e0,e1,e2,e3,e4,e5,e6⟩:=rE hZ hE hp hf (by simpa using hz)
     have br:=hZ.r0 e.b (hE e e1).2.1
     obtain⟨j,j0,j1,j2⟩:=LX e0
     have rd:=IB E sf bd ep n hs hb hn hE hl L hZ.toIs p0 p hp W M (by omega) (by omega) Tl (by simpa using hz) j j1 j0
     rw[j2]at rd
     obtain⟨Tl',q,h⟩:=ih e.b (W++[(e.r:Int)]) (M++[(e.b:Int)]) (Tl++[.box [I e.b]]) (hE e e1).2.1 e4 (by omega) (by simp;omega) (by simp;omega)
     refine⟨Tl',q,?_⟩
     have:oc (vl sf) (uB sf bd) E L (k+1) p=e::oc (vl sf) (uB sf bd) E L k e.b:=by
      conv=>lhs;unfold oc
      rw[if_neg hz,e0]
     simpa only[this,List.map_cons,List.append_assoc,List.cons_append,List.nil_append]using fo rd h
theorem UW{F:Int}(hF:0≤F)(E:List Edge)(u:Edge→Bool)(sf:List Bool)(n:Nat):QV F n E u (vl sf) (oh F sf n n):=by
 refine⟨Fo F hF sf n n,?_,?_⟩
 · intro p hp hz
   rw[kV F sf n n hp]
   have:nth sf p=true:=hz
   rw[this,Bool.not_true,Bool.and_false]
   rfl
 · intro p hp hf
   left
   rw[kV F sf n n hp]at hf
   show nth sf p=true
   cases hz:nth sf p with
   | true=>rfl
   | false=>
     rw[hz,decide_eq_true hp]at hf
     simp at hf
theorem Fq{E:List Edge}{sf bd:List Bool}{n:Nat}(hE:∀e∈E,e.ok n):OQ lz n E (uB sf bd) (vl sf) (ma E sf bd n):=by
 refine OR hE ?_ (UW (by decide) E _ sf n)
 intro e _ hu
 unfold uB at hu
 simp only[Bool.and_eq_true,Bool.not_eq_true']at hu
 exact hu.1
def XY(E:List Edge)(sf bd:List Bool)(n p:Nat):List Edge:=oc (vl sf) (uB sf bd) E (ma E sf bd n) (nth (ma E sf bd n) p).r.toNat p
def O8(E:List Edge)(sf bd:List Bool)(n p:Nat):D:=
 if(nth (ma E sf bd n) p).t<lz then .tup [.t (tL ((XY E sf bd n p).map fun e=>(e.r:Int))),I (nth (ma E sf bd n) p).t,.t (tL ((p:Int)::(XY E sf bd n p).map fun e=>(e.b:Int))),B true]
 else .tup [.t (tL []),I 0,.t (tL []),B false]
theorem wK{E:List Edge}{sf bd:List Bool}{n:Nat}(hE:∀e∈E,e.ok n)(hn:n≤64){p:Nat}(hp:p<n)(hf:(nth (ma E sf bd n) p).t<lz):0≤(nth (ma E sf bd n) p).t∧(nth (ma E sf bd n) p).t≤64000000∧0≤(nth (ma E sf bd n) p).r∧(nth (ma E sf bd n) p).r≤64000000:=by
 have h:=Fq (sf:=sf) (bd:=bd) hE
 have h1:=h.time hE hp hf
 have h2:=h.t0 p hp
 have h3:=h.r0 p hp
 have h4:=h.r1 p hp
 omega
theorem iP{l:Nat}{L:C}{S:St}{p:Ex×St}{K:St→Option (Ex×St)}{E:Ex×St→Option (D×af)}{R:Option (D×af)}(h:exS aG L S=some p)(h2:(andThen (vT l (some p)) K).bind E=R):(andThen (vT l (exS aG L S)) K).bind E=R:=by
 rw[h];exact h2
theorem LZ(E:List Edge)(sf bd:List Bool)(ep n:Nat)(hs:sf.length=n)(hb:bd.length=n)(hn:n≤64)(hE:∀e∈E,e.ok n)(hl:E.length≤1000)(p:Nat)(hp:p<n):
 aG 0 N.bI [.agg (zD 0 E ep n),I p] [mq E ep,je sf,je bd]=some (O8 E sf bd n p,[mq E ep,je sf,je bd]):=by
 refine av K.kh rfl ?_
 have co:=O6 E sf bd ep n hs hb hn hE hl
 have cz:=Fq (sf:=sf) (bd:=bd) hE
 have cl:=wK (sf:=sf) (bd:=bd) hE hn hp
 have ln:=cz.l
 unfold O8 XY
 generalize ma E sf bd n=L at*
 have e1:(L.map Lab.e)[p]?=some (nth L p).e:=eU _ (by omega)
 by_cases hf:(nth L p).t<lz
 · obtain⟨c1,c2,c3,c4⟩:=cl hf
   obtain⟨Tl,q,lp⟩:=LY E sf bd ep n hs hb hn hE hl L cz p (nth L p).r.toNat p [] [(p:Int)] [] hp hf (Nat.le_refl _) (by simp;omega) (by simp;omega)
   have lp2:∀z0 z4 z6 z9 z10,exS aG K.mT ⟨[z0,I p,.bp 3 0,.ref 4 0 0,z4,.ref 7 0 1,z6,.bp 6 0,.bp 8 0,z9,z10],zO E sf bd ep n L [] [(p:Int)] [] p⟩=_:=fun z0 z4 z6 z9 z10=>sX lp
   rw[if_pos hf]
   generalize (oc (vl sf) (uB sf bd) E L (nth L p).r.toNat p)=P at*
   generalize nth L p=x at*
   obtain⟨xt,xr⟩:=x
   simp only at*
   have hf:xt<1152921504606846976:=hf
   simp (disch:=omega) only[go_sem,K.bI,↓reduceIte,co,e1,hf,Nat.reduceAdd,Nat.reduceSub]
   refine iP (lp2 _ _ _ _ _) ?_
   simp (disch:=omega) only[go_sem,K.bI,↓reduceIte,e1,List.nil_append,List.singleton_append,Nat.reduceAdd,Nat.reduceSub]
   rfl
 · rw[if_neg hf]
   have:=cz.t1 p hp
   generalize nth L p=x at*
   obtain⟨xt,xr⟩:=x
   simp only at*
   have hf:¬xt<1152921504606846976:=hf
   simp (disch:=omega) only[go_sem,K.bI,↓reduceIte,co,e1,hf,Nat.reduceAdd,Nat.reduceSub]
   simp only[tL,List.map_nil]
def wM(l:List Bool)(xs:List Int):Nat→List Bool
 | 0=>l
 | j+1=>(wM l xs j).set (nth xs j).toNat true
theorem kJ(l:List Bool)(xs:List Int):∀j,(wM l xs j).length=l.length
 | 0=>rfl
 | j+1=>by simp only[wM,List.length_set];exact kJ l xs j
def BP(m:aK):List Bool:=m.places.map Place.surf
def sfL(m:aK)(e:Esc):List Bool:=wM (BP m) e.safe e.safe.length
def bdL(m:aK)(e:Esc):List Bool:=wM (List.replicate m.places.length false) e.bad e.bad.length
theorem Fs(m:aK)(e:Esc):(sfL m e).length=m.places.length:=by unfold sfL;rw[kJ];simp[BP]
theorem L3(m:aK)(e:Esc):(bdL m e).length=m.places.length:=by unfold bdL;rw[kJ];simp
def ID(m:aK)(e:Esc)(k:Nat):List Edge:=
 if(k:Int)∈e.shut then []else
  (if 0≤rP m k false then [⟨k,(nth m.roads k).frm.toNat,(nth m.roads k).to.toNat,rP m k false⟩]else [])++
  (if 0≤rP m k true then [⟨k,(nth m.roads k).to.toNat,(nth m.roads k).frm.toNat,rP m k true⟩]else [])
def mU(m:aK)(e:Esc):Nat→List Edge
 | 0=>[]
 | j+1=>mU m e j++ID m e j
theorem L4(m:aK)(e:Esc)(k:Nat):(ID m e k).length≤2:=by
 unfold ID
 split
 · simp
 · rw[List.length_append]
   split<;>split<;>simp
theorem rG(m:aK)(e:Esc):∀j,(mU m e j).length≤2*j
 | 0=>Nat.le_refl _
 | j+1=>by
   have:=rG m e j
   have:=L4 m e j
   simp only[mU,List.length_append]
   omega
theorem O9{m:aK}(hm:m.ok)(e:Esc){k:Nat}(hk:k<m.roads.length):∀x∈ID m e k,x.ok m.places.length:=by
 obtain⟨f0,f1,t0,t1, -,l0,l1, -, -, -, -, -, -, -, -⟩:=hm.rs _ (ah hk)
 have s1:=nD hm k hk false
 have s2:=nD hm k hk true
 intro x hx
 unfold ID at hx
 split at hx
 · cases hx
 · rw[List.mem_append]at hx
   rcases hx with hx | hx
   · split at hx
     · rw[List.mem_singleton]at hx
       subst hx
       exact⟨by simp only;omega,by simp only;omega,by simp only;omega,by simp only;omega⟩
     · cases hx
   · split at hx
     · rw[List.mem_singleton]at hx
       subst hx
       exact⟨by simp only;omega,by simp only;omega,by simp only;omega,by simp only;omega⟩
     · cases hx
theorem DK{m:aK}(hm:m.ok)(e:Esc):∀j,j≤m.roads.length→∀x∈mU m e j,x.ok m.places.length
 | 0,_=>by simp[mU]
 | j+1,hj=>by
   intro x hx
   rw[mU,List.mem_append]at hx
   rcases hx with hx | hx
   · exact DK hm e j (by omega) x hx
   · exact O9 hm e (by omega) x hx
def jd(m:aK)(e:Esc):List Edge:=mU m e m.roads.length
def vm(m:aK)(j:Nat):List Bool:=(List.range m.places.length).map fun p=>decide (p<j)&&(nth m.places p).surf
theorem zq(m:aK)(j:Nat):(vm m j).length=m.places.length:=by simp[vm]
theorem IE(m:aK){j:Nat}(hj:j<m.places.length):(vm m j).set j (nth m.places j).surf=vm m (j+1):=by
 refine List.ext_getElem? fun i=>?_
 by_cases hi:i=j
 · subst hi
   rw[List.getElem?_set_self (by rw[zq];exact hj)]
   unfold vm
   rw[List.getElem?_map,List.getElem?_range hj]
   simp
 · rw[List.getElem?_set_ne (by omega)]
   unfold vm
   rw[List.getElem?_map,List.getElem?_map]
   by_cases hn:i<m.places.length
   · rw[List.getElem?_range hn]
     have:(decide (i<j+1))=decide (i<j):=decide_eq_decide.2 (by omega)
     simp only[Option.map_some,this]
   · rw[List.getElem?_eq_none (by simpa using hn)];rfl
theorem L5(m:aK):vm m m.places.length=BP m:=by
 refine List.ext_getElem? fun i=>?_
 unfold vm BP
 rw[List.getElem?_map,List.getElem?_map]
 by_cases hn:i<m.places.length
 · rw[List.getElem?_range hn,ff hn];simp[hn]
 · rw[List.getElem?_eq_none (by simpa using hn),List.getElem?_eq_none (by omega)];rfl
theorem IF(m:aK):vm m 0=List.replicate m.places.length false:=by
 refine List.ext_getElem? fun i=>?_
 unfold vm
 rw[List.getElem?_map,List.getElem?_replicate]
 by_cases hn:i<m.places.length
 · rw[List.getElem?_range hn];simp[hn]
 · rw[List.getElem?_eq_none (by simpa using hn)];simp[hn]
abbrev kn(e:Esc):List D:=[.t (tL e.safe),.t (tL e.bad),.t (tL e.shut),.t (tI e.limit)]
abbrev rQ(m:aK)(e:Esc)(S:List Edge)(sf bd:List Bool):af:=[.box (aa m),.box (kn e),.box [I 0,.nil,.nil,.nil],.box [I m.places.length,.ref 7 0 S.length,.ref 5 0 m.places.length,.ref 6 0 m.places.length],.arr 4 false 0 [],je sf,je bd,mq S 0]
theorem UX{m:aK}(hm:m.ok)(e:Esc)(bd:List Bool)(hb:bd.length=m.places.length)(z0 z1 z6 z7 z8 z9 z10 z11 z12 z13 z17 z18 z19 z20 z21 z22 z23 z24 z25:D):
 exS aG K.xA ⟨[z0,z1,.bp 0 0,.bp 1 0,.bp 2 0,.bp 3 0,z6,z7,z8,z9,z10,z11,z12,z13,.t (.sl (m.places.map Place.e)),I m.places.length,I 0,z17,z18,z19,z20,z21,z22,z23,z24,z25],rQ m e [] (vm m 0) bd⟩=some (.exit 0,⟨[.und,.und,.bp 0 0,.bp 1 0,.bp 2 0,.bp 3 0,.und,.und,.und,.und,.und,.und,.und,.und,.t (.sl (m.places.map Place.e)),I m.places.length,I m.places.length,.und,.und,.und,.und,.und,.und,.und,.und,.und],rQ m e [] (BP m) bd⟩):=by
 have np:=hm.np
 rw[← L5]
 refine b7 (fun j=>⟨[.und,.und,.bp 0 0,.bp 1 0,.bp 2 0,.bp 3 0,.und,.und,.und,.und,.und,.und,.und,.und,.t (.sl (m.places.map Place.e)),I m.places.length,I j,.und,.und,.und,.und,.und,.und,.und,.und,.und],rQ m e [] (vm m j) bd⟩) m.places.length (by simp only[go_sem]) ?_ ?_ (by simp)
 · intro j hj
   have ln:=zq m j
   have ex:(m.places.map Place.e)[j]?=some (nth m.places j).e:=eU _ hj
   rw[← IE m hj]
   generalize vm m j=L at*
   generalize nth m.places j=x at*
   obtain⟨h,su⟩:=x
   obtain⟨places,roads⟩:=m
   simp only[aa]at*
   simp (disch:=omega) only[go_sem,K.pO,↓reduceIte,ex,x9,Nat.reduceAdd,Nat.reduceSub]
   rfl
 · have ln:=zq m m.places.length
   generalize vm m m.places.length=L at*
   obtain⟨places,roads⟩:=m
   simp only[aa]at*
   simp (disch:=omega) only[go_sem,K.pO,↓reduceIte,Nat.reduceAdd,Nat.reduceSub]
theorem UY{m:aK}(hm:m.ok){e:Esc}(he:e.ok m)(sf bd:List Bool)(hs:sf.length=m.places.length)(hb:bd.length=m.places.length)(z0 z1 z6 z7 z8 z9 z10 z11 z12 z13 z14 z15 z16 z20 z21 z22 z23 z24 z25:D):
 exS aG K.xB ⟨[z0,z1,.bp 0 0,.bp 1 0,.bp 2 0,.bp 3 0,z6,z7,z8,z9,z10,z11,z12,z13,z14,z15,z16,.t (tL e.safe),I e.safe.length,I 0,z20,z21,z22,z23,z24,z25],rQ m e [] sf bd⟩=some (.exit 2,⟨[.und,.und,.bp 0 0,.bp 1 0,.bp 2 0,.bp 3 0,.und,.und,.und,.und,.und,.und,.und,.und,.und,.und,.und,.t (tL e.safe),I e.safe.length,I e.safe.length,.und,.und,.und,.und,.und,.und],rQ m e [] (wM sf e.safe e.safe.length) bd⟩):=by
 have np:=hm.np
 have sl:=he.sl hm
 refine b7 (fun j=>⟨[.und,.und,.bp 0 0,.bp 1 0,.bp 2 0,.bp 3 0,.und,.und,.und,.und,.und,.und,.und,.und,.und,.und,.und,.t (tL e.safe),I e.safe.length,I j,.und,.und,.und,.und,.und,.und],rQ m e [] (wM sf e.safe j) bd⟩) e.safe.length (by simp only[go_sem,wM]) ?_ ?_ (by simp)
 · intro j hj
   have ln:=kJ sf e.safe j
   have hx:=G8 he.s _ (ah hj)
   simp only[wM]
   generalize wM sf e.safe j=L at*
   obtain⟨places,roads⟩:=m
   obtain⟨safe,bad,shut,limit⟩:=e
   simp only[aa,kn]at*
   simp (disch:=omega) only[go_sem,K.pP,↓reduceIte,x9,Nat.reduceAdd,Nat.reduceSub]
   rfl
 · have ln:=kJ sf e.safe e.safe.length
   generalize wM sf e.safe e.safe.length=L at*
   obtain⟨places,roads⟩:=m
   obtain⟨safe,bad,shut,limit⟩:=e
   simp only[aa,kn]at*
   simp (disch:=omega) only[go_sem,K.pP,↓reduceIte,Nat.reduceAdd,Nat.reduceSub]
theorem UZ{m:aK}(hm:m.ok){e:Esc}(he:e.ok m)(sf bd:List Bool)(hs:sf.length=m.places.length)(hb:bd.length=m.places.length)(z0 z1 z6 z7 z8 z9 z10 z11 z12 z13 z14 z15 z16 z17 z18 z19 z23 z24 z25:D):
 exS aG K.xC ⟨[z0,z1,.bp 0 0,.bp 1 0,.bp 2 0,.bp 3 0,z6,z7,z8,z9,z10,z11,z12,z13,z14,z15,z16,z17,z18,z19,.t (tL e.bad),I e.bad.length,I 0,z23,z24,z25],rQ m e [] sf bd⟩=some (.exit 4,⟨[.und,.und,.bp 0 0,.bp 1 0,.bp 2 0,.bp 3 0,.und,.und,.und,.und,.und,.und,.und,.und,.und,.und,.und,.und,.und,.und,.t (tL e.bad),I e.bad.length,I e.bad.length,.und,.und,.und],rQ m e [] sf (wM bd e.bad e.bad.length)⟩):=by
 have np:=hm.np
 have sl:=he.bl hm
 refine b7 (fun j=>⟨[.und,.und,.bp 0 0,.bp 1 0,.bp 2 0,.bp 3 0,.und,.und,.und,.und,.und,.und,.und,.und,.und,.und,.und,.und,.und,.und,.t (tL e.bad),I e.bad.length,I j,.und,.und,.und],rQ m e [] sf (wM bd e.bad j)⟩) e.bad.length (by simp only[go_sem,wM]) ?_ ?_ (by simp)
 · intro j hj
   have ln:=kJ bd e.bad j
   have hx:=G8 he.b _ (ah hj)
   simp only[wM]
   generalize wM bd e.bad j=L at*
   obtain⟨places,roads⟩:=m
   obtain⟨safe,bad,shut,limit⟩:=e
   simp only[aa,kn]at*
   simp (disch:=omega) only[go_sem,K.pQ,↓reduceIte,x9,Nat.reduceAdd,Nat.reduceSub]
   rfl
 · have ln:=kJ bd e.bad e.bad.length
   generalize wM bd e.bad e.bad.length=L at*
   obtain⟨places,roads⟩:=m
   obtain⟨safe,bad,shut,limit⟩:=e
   simp only[aa,kn]at*
   simp (disch:=omega) only[go_sem,K.pQ,↓reduceIte,Nat.reduceAdd,Nat.reduceSub]
theorem U0{m:aK}(hm:m.ok){e:Esc}(he:e.ok m)(sf bd:List Bool)(z0 z1 z6 z7 z8 z9 z10 z11 z12 z13 z14 z15 z16 z17 z18 z19 z20 z21 z22:D):
 exS aG K.xD ⟨[z0,z1,.bp 0 0,.bp 1 0,.bp 2 0,.bp 3 0,z6,z7,z8,z9,z10,z11,z12,z13,z14,z15,z16,z17,z18,z19,z20,z21,z22,.t (.sl (m.roads.map Road.e)),I m.roads.length,I 0],rQ m e [] sf bd⟩=some (.exit 6,⟨[.und,.und,.bp 0 0,.bp 1 0,.bp 2 0,.bp 3 0,.und,.und,.und,.und,.und,.und,.und,.und,.und,.und,.und,.und,.und,.und,.und,.und,.und,.t (.sl (m.roads.map Road.e)),I m.roads.length,I m.roads.length],rQ m e (jd m e) sf bd⟩):=by
 have np:=hm.np
 have nr:=hm.nr
 have sl:=he.hl hm
 refine b7 (fun j=>⟨[.und,.und,.bp 0 0,.bp 1 0,.bp 2 0,.bp 3 0,.und,.und,.und,.und,.und,.und,.und,.und,.und,.und,.und,.und,.und,.und,.und,.und,.und,.t (.sl (m.roads.map Road.e)),I m.roads.length,I j],rQ m e (mU m e j) sf bd⟩) m.roads.length (by simp only[go_sem,mU]) ?_ ?_ (by simp)
 · intro j hj
   have ln:=rG m e j
   have cn:=sY e.shut j (by omega)
   have w1:=pT hm j hj false
   have w2:=pT hm j hj true
   have b1:=nD hm j hj false
   have b2:=nD hm j hj true
   obtain⟨f0,f1,t0,t1, -, -, -, -, -, -, -, -, -, -, -⟩:=hm.rs _ (ah hj)
   simp only[mU]
   unfold ID
   have ex:(m.roads.map Road.e)[j]?=some (nth m.roads j).e:=eU _ hj
   generalize rP m j false=u at*
   generalize rP m j true=v at*
   generalize nth m.roads j=x at*
   obtain⟨frm,to,len,ar,walk,closed,rl,rh,ll,lh⟩:=x
   simp only at f0 f1 t0 t1 ⊢
   obtain⟨p,rfl⟩:=Int.eq_ofNat_of_zero_le f0
   obtain⟨q,rfl⟩:=Int.eq_ofNat_of_zero_le t0
   simp only[Int.toNat_natCast]
   generalize mU m e j=S at*
   obtain⟨places,roads⟩:=m
   obtain⟨safe,bad,shut,limit⟩:=e
   simp only[aa,kn]at*
   by_cases c:(j:Int)∈shut
   · rw[if_pos c]
     simp (disch:=omega) only[go_sem,K.gU,↓reduceIte,ex,cn,c,decide_true,List.append_nil,Nat.reduceAdd,Nat.reduceSub]
   · rw[if_neg c]
     by_cases c1:0≤u<;>by_cases c2:0≤v
     · simp (disch:=omega) only[go_sem,K.gU,↓reduceIte,ex,cn,c,w1,w2,c1,c2,decide_false,Nat.reduceAdd,Nat.reduceSub]
       simp only[rQ,mq,aa,kn,List.map_append,List.map_cons,List.map_nil,List.length_append,List.length_cons,List.length_nil,Nat.add_assoc,Nat.reduceAdd,Nat.zero_add,List.append_assoc,List.cons_append,List.nil_append]
     · simp (disch:=omega) only[go_sem,K.gU,↓reduceIte,ex,cn,c,w1,w2,c1,c2,decide_false,List.append_nil,Nat.reduceAdd,Nat.reduceSub]
       simp only[rQ,mq,aa,kn,List.map_append,List.map_cons,List.map_nil,List.length_append,List.length_cons,List.length_nil,Nat.add_assoc,Nat.reduceAdd,Nat.zero_add,List.append_assoc,List.cons_append,List.nil_append]
     · simp (disch:=omega) only[go_sem,K.gU,↓reduceIte,ex,cn,c,w1,w2,c1,c2,decide_false,List.nil_append,Nat.reduceAdd,Nat.reduceSub]
       simp only[rQ,mq,aa,kn,List.map_append,List.map_cons,List.map_nil,List.length_append,List.length_cons,List.length_nil,Nat.add_assoc,Nat.reduceAdd,Nat.zero_add,List.append_assoc,List.cons_append,List.nil_append]
     · simp (disch:=omega) only[go_sem,K.gU,↓reduceIte,ex,cn,c,w1,w2,c1,c2,decide_false,List.append_nil,Nat.reduceAdd,Nat.reduceSub]
 · unfold jd
   generalize mU m e m.roads.length=S at*
   obtain⟨places,roads⟩:=m
   obtain⟨safe,bad,shut,limit⟩:=e
   simp only[aa,kn]at*
   simp (disch:=omega) only[go_sem,K.gU,↓reduceIte,Nat.reduceAdd,Nat.reduceSub]
theorem U4{m:aK}(hm:m.ok){e:Esc}(he:e.ok m)(h1:1≤m.places.length):
 aG 1 N.fQ [.t m.e,.t e.e] []=some (.agg (zD 0 (jd m e) 0 m.places.length),[mq (jd m e) 0,je (sfL m e),je (bdL m e)]):=by
 refine av K.tH rfl ?_
 have np:=hm.np
 have nr:=hm.nr
 have l1:=UX hm e (List.replicate m.places.length false) (by simp)
 have l2:=UY hm he (BP m) (List.replicate m.places.length false) (by simp[BP]) (by simp)
 have l3:=UZ hm he (sfL m e) (List.replicate m.places.length false) (Fs m e) (by simp)
 have l4:=U0 hm he (sfL m e) (bdL m e)
 have ls:(jd m e).length≤256:=by have:=rG m e m.roads.length;unfold jd;omega
 have e2:wM (BP m) e.safe e.safe.length=sfL m e:=rfl
 have e3:wM (List.replicate m.places.length false) e.bad e.bad.length=bdL m e:=rfl
 rw[e2]at l2
 rw[e3]at l3
 have s1:=Fs m e
 have s2:=L3 m e
 rw[IF]at l1
 generalize jd m e=W at*
 generalize sfL m e=sf at*
 generalize bdL m e=bd at*
 generalize BP m=sl at*
 obtain⟨places,roads⟩:=m
 obtain⟨safe,bad,shut,limit⟩:=e
 simp only[aa,kn,rQ]at*
 have rp:List.replicate places.length (D.t (T.bool false))=List.map D.t (List.map T.bool (List.replicate places.length false)):=by simp only[List.map_replicate]
 simp (disch:=omega) only[go_sem,K.fQ,↓reduceIte,Nat.reduceAdd,Nat.reduceSub]
 rw[rp]
 refine iP (l1 _ _ _ _ _ _ _ _ _ _ _ _ _ _ _ _ _ _ _) ?_
 simp (disch:=omega) only[go_sem,K.fQ,↓reduceIte,Nat.reduceAdd,Nat.reduceSub]
 refine iP (l2 _ _ _ _ _ _ _ _ _ _ _ _ _ _ _ _ _ _ _) ?_
 simp (disch:=omega) only[go_sem,K.fQ,↓reduceIte,Nat.reduceAdd,Nat.reduceSub]
 refine iP (l3 _ _ _ _ _ _ _ _ _ _ _ _ _ _ _ _ _ _ _) ?_
 simp (disch:=omega) only[go_sem,K.fQ,↓reduceIte,Nat.reduceAdd,Nat.reduceSub]
 refine iP (l4 _ _ _ _ _ _ _ _ _ _ _ _ _ _ _ _ _ _ _) ?_
 simp (disch:=omega) only[go_sem,K.fQ,↓reduceIte,Nat.reduceAdd,Nat.reduceSub]
end Go.Ev
namespace Go.Ev
open Go
section
variable [Lib]
def U5(H:af)(zero:T)(sz:Nat)(x:D):Option (D×af):=Cl H x zero sz
@[go_sem] theorem ahx (call : aJ) (get : X → Option D) (H : af) (x : X) (zero : T) (sz : Nat) : evO call get H (.clr x zero sz) = (get x).bind (U5 H zero sz) := (rfl)
@[go_sem] theorem agk (H : af) (zero : T) (sz ep n lo hi : Nat) (es : List D) (h1 : n = es.length) (h2 : lo ≤ hi) (h3 : hi ≤ n) : U5 (.arr sz false ep es :: H) zero sz (.sub 0 ep n lo hi) =
 some (.tup [],.arr sz false ep (es.take lo++List.replicate (hi-lo) (.t zero)++es.drop hi)::H):=by
 have a:fM (.arr sz false ep es::H) 0 ep n=some (sz,false,es):=by
  show(if ep=ep∧n=es.length then some (sz,false,es)else none)=_
  rw[if_pos ⟨rfl,h1⟩]
 simp only[U5,Cl,a,Option.bind_some,Vk]
 by_cases h:hi-lo=0
 · rw[if_pos h,h]
   have:hi=lo:=by omega
   subst this
   simp
 · rw[if_neg h,if_pos (by simp)]
   have:lo+(hi-lo)=hi:=by omega
   rw[this]
   rfl
def U6(H:af)(x hi:Option D):Option (D×af):=x.bind fun a=>(hi.bind intOf).bind fun h=>XZ H a h
@[go_sem] theorem ahy (call : aJ) (get : X → Option D) (H : af) (x hi : X) : evO call get H (.pop x hi) = U6 H (get x) (get hi) := (rfl)
@[go_sem] theorem agl (H : af) (k : IntKind) (sz ep n : Nat) (i : Int) (es : List D) (h1 : n = es.length) (h2 : 0 ≤ i) (h3 : i ≤ n) : U6 (.arr sz false ep es :: H) (some (.ref 0 ep n)) (some (.t (.int k i))) =
 some (.ref 0 (ep+1) i.toNat,.arr sz false (ep+1) (es.take i.toNat)::H):=by
 have a:fM (.arr sz false ep es::H) 0 ep n=some (sz,false,es):=by
  show(if ep=ep∧n=es.length then some (sz,false,es)else none)=_
  rw[if_pos ⟨rfl,h1⟩]
 have b:intOf (.t (.int k i))=some i:=rfl
 have c:idx i=some i.toNat:=by unfold idx;rw[if_pos h2]
 simp only[U6,Option.bind_some,b,XZ,a,c]
 rw[if_pos ⟨by omega,trivial⟩]
 rfl
end
variable [Lib] [cu] [bP] [gG] [gM] [jO] [fW] [fS] [iR] [gF] [eX] [dT] [jD] [iW] [mZ] [lZ] [jP] [jE] [oe]
theorem Ft(l:List Int)(hl:l.length≤100000000)(e:Edge):aG 0 N.cR [.t e.e,.bp 0 0] [.box [.t (tL l)]]=some (B (decide ((e.r:Int)∈l)),[.box [.t (tL l)]]):=by
 refine av K.qU rfl ?_
 have cn:=sY l e.r (by omega)
 obtain⟨r,a,b,t⟩:=e
 simp only at*
 simp (disch:=omega) only[go_sem,K.cR,↓reduceIte,cn,Nat.reduceAdd,Nat.reduceSub]
theorem L6(l:List Int)(hll:l.length≤100000000)(E:List Edge)(hl:E.length≤1000):
 aG 0 N.ak [.ref 0 0 E.length,.fn N.cR [.bp 1 0]] [mq E 0,.box [.t (tL l)]]=
  some (I (match (List.range E.length).find? (fun j=>decide (((nth E j).r:Int)∈l))with | some j=>(j:Int) | none=> -1),[mq E 0,.box [.t (tL l)]]):=by
 refine av K.bO rfl ?_
 have loop:∀z2 z3:D,exS aG K.cK ⟨[.ref 0 0 E.length,.fn N.cR [.bp 1 0],z2,z3,I E.length,I 0],[mq E 0,.box [.t (tL l)]]⟩=
  some (match (List.range E.length).find? (fun j=>decide (((nth E j).r:Int)∈l))with
   | some j=>(.ret,⟨[.ref 0 0 E.length,.fn N.cR [.bp 1 0],I j,I j,I E.length,I j],[mq E 0,.box [.t (tL l)]]⟩)
   | none=>(.exit 0,⟨[.ref 0 0 E.length,.fn N.cR [.bp 1 0],.und,.und,I E.length,I E.length],[mq E 0,.box [.t (tL l)]]⟩)):=by
  intro z2 z3
  refine bY (fun j=>⟨[.ref 0 0 E.length,.fn N.cR [.bp 1 0],.und,.und,I E.length,I j],[mq E 0,.box [.t (tL l)]]⟩) E.length (fun j=>decide (((nth E j).r:Int)∈l)) _ _ rfl ?_ ?_ ?_ (by simp)
  · intro j hj hp'
    have b1:=Ft l hll (nth E j)
    rw[hp']at b1
    simp (disch:=omega) only[go_sem,K.aI,↓reduceIte,b1,Nat.reduceAdd,Nat.reduceSub]
  · intro j hj hp'
    have b1:=Ft l hll (nth E j)
    rw[hp']at b1
    refine⟨?_,by simp⟩
    simp (disch:=omega) only[go_sem,K.aI,↓reduceIte,b1,Nat.reduceAdd,Nat.reduceSub]
  · simp (disch:=omega) only[go_sem,K.aI,↓reduceIte,Nat.reduceAdd,Nat.reduceSub]
 cases hf:(List.range E.length).find? (fun j=>decide (((nth E j).r:Int)∈l))with
 | some j=>
   rw[hf]at loop
   simp (disch:=omega) only[go_sem,K.ak,↓reduceIte,loop,Nat.reduceAdd,Nat.reduceSub]
 | none=>
   rw[hf]at loop
   simp (disch:=omega) only[go_sem,K.ak,↓reduceIte,loop,Nat.reduceAdd,Nat.reduceSub]
def m5(l:List Int)(e:Edge):Bool:= !decide ((e.r:Int)∈l)
def Fu(l:List Int)(E:List Edge):List Edge:=E.filter (m5 l)
def tU(l:List Int)(E:List Edge)(j:Nat):List Edge:=(E.take j).filter (m5 l)
theorem vn(l:List Int)(E:List Edge)(j:Nat):(tU l E j).length≤j:=by
 unfold tU
 have:=List.length_filter_le (m5 l) (E.take j)
 have:=List.length_take_le j E
 omega
theorem vo(l:List Int)(E:List Edge){j:Nat}(hj:j<E.length):tU l E (j+1)=tU l E j++(if m5 l (nth E j)then [nth E j]else []):=by
 unfold tU
 rw[List.take_succ,ff hj,List.filter_append]
 cases h:m5 l (nth E j)<;>simp[h]
theorem BQ(l:List Int)(E:List Edge):tU l E E.length=Fu l E:=by unfold tU Fu;rw[List.take_length]
theorem Pa{A B:List Edge}{i:Nat}(h:A.length≤i):nth (A++B) i=nth B (i-A.length):=by
 unfold nth
 simp only[List.getD_eq_getElem?_getD,List.getElem?_append_right h]
theorem L7{A:List Edge}{k i:Nat}:nth (A.drop k) i=nth A (k+i):=by
 unfold nth
 simp only[List.getD_eq_getElem?_getD,List.getElem?_drop]
def BR(l:List Int)(E:List Edge)(j:Nat):List Edge:=tU l E j++E.drop (tU l E j).length
theorem BS(l:List Int)(E:List Edge){j:Nat}(hj:j≤E.length):(BR l E j).length=E.length:=by
 unfold BR
 have:=vn l E j
 rw[List.length_append,List.length_drop];omega
theorem Pb(l:List Int)(E:List Edge)(j:Nat){i:Nat}(hi:j≤i):nth (BR l E j) i=nth E i:=by
 unfold BR
 have:=vn l E j
 rw[Pa (by omega),L7]
 congr 1
 omega
theorem Pc(l:List Int)(E:List Edge){j:Nat}(hj:j<E.length)(h:m5 l (nth E j)=true):(BR l E j).set (tU l E j).length (nth E j)=BR l E (j+1):=by
 unfold BR
 have dl:=vn l E j
 rw[vo l E hj,if_pos h,List.set_append_right _ _ (Nat.le_refl _),Nat.sub_self,List.length_append,List.length_singleton,List.append_assoc]
 congr 1
 have:E.drop (tU l E j).length=nth E (tU l E j).length::E.drop ((tU l E j).length+1):=by
  have hl:(tU l E j).length<E.length:=by omega
  rw[List.drop_eq_getElem_cons hl]
  congr 1
  have:=ff hl
  rw[List.getElem?_eq_getElem hl]at this
  exact Option.some.inj this
 rw[this]
 rfl
theorem L8(l:List Int)(E:List Edge){j:Nat}(hj:j<E.length)(h:m5 l (nth E j)=false):tU l E (j+1)=tU l E j∧BR l E j=BR l E (j+1):=by
 have:tU l E (j+1)=tU l E j:=by rw[vo l E hj,h];simp
 unfold BR
 rw[this]
 exact⟨rfl,rfl⟩
theorem Pd(L:List Edge)(j:Nat)(a b c d:Int)(x:Edge)(h:x.e= .agg [.int .i64 a,.int .i64 b,.int .i64 c,.int .i64 d]):(List.map D.t (List.map Edge.e L)).set j (D.t (.agg [.int .i64 a,.int .i64 b,.int .i64 c,.int .i64 d]))=List.map D.t (List.map Edge.e (L.set j x)):=by
 simp only[List.map_set,h]
theorem Pe(l:List Int)(hll:l.length≤100000000)(E:List Edge)(hl:E.length≤1000)(i:Nat)(hi:i<E.length)(h0:tU l E (i+1)=tU l E i)(h00:(tU l E i).length=i)(z2 z5:D):
 exS aG K.ee ⟨[.ref 0 0 E.length,.fn N.cR [.bp 1 0],z2,I i,I (i+1),z5],[mq E 0,.box [.t (tL l)]]⟩=
  some (.exit 0,⟨[.ref 0 0 E.length,.fn N.cR [.bp 1 0],.und,I (Fu l E).length,I E.length,.und],[mq (BR l E E.length) 0,.box [.t (tL l)]]⟩):=by
 have e0:BR l E (i+1)=E:=by
  unfold BR
  rw[h0]
  have:tU l E i=E.take i:=by
   have:=List.filter_sublist (p:=m5 l) (l:=E.take i)
   exact this.eq_of_length (by rw[show((E.take i).filter (m5 l)).length=i from h00,List.length_take];omega)
  rw[h00,this,List.take_append_drop]
 rw[← BQ]
 refine b7 (fun k=>⟨[.ref 0 0 E.length,.fn N.cR [.bp 1 0],.und,I (tU l E (i+1+k)).length,I ((i+1+k:Nat)),.und],[mq (BR l E (i+1+k)) 0,.box [.t (tL l)]]⟩) (E.length-(i+1)) ?_ ?_ ?_ (by simp)
 · simp only[Nat.add_zero,e0,h0,h00]
   rfl
 · intro k hk
   have hj:i+1+k<E.length:=by omega
   rw[show i+1+(k+1)=i+1+k+1 from rfl]
   generalize i+1+k=j at*
   have t1:=Ft l hll (nth E j)
   have ln:=BS l E (j:=j) (by omega)
   have nx:=Pb l E j (i:=j) (Nat.le_refl _)
   have dl:=vn l E j
   have st:=Pc l E hj
   have sm:=L8 l E hj
   have sp:=vo l E hj
   generalize hx:nth E j=x at*
   have hk:m5 l x= !decide ((x.r:Int)∈l):=rfl
   generalize decide ((x.r:Int)∈l)=c at*
   generalize BR l E j=A at*
   generalize tU l E j=F at*
   obtain⟨xr,xa,xb,xt⟩:=x
   cases c with
   | true=>
     obtain⟨s1,s2⟩:=sm hk
     rw[s1,←s2]
     simp (disch:=omega) only[go_sem,K.bC,↓reduceIte,t1,nx,Bool.not_true,Nat.reduceAdd,Nat.reduceSub]
   | false=>
     rw[← st hk,sp,if_pos (show m5 l ⟨xr,xa,xb,xt⟩=true from hk)]
     simp (disch:=omega) only[go_sem,K.bC,↓reduceIte,t1,nx,Bool.not_false,List.length_append,List.length_singleton,Pd A F.length xr xa xb xt ⟨xr,xa,xb,xt⟩ rfl,Nat.reduceAdd,Nat.reduceSub]
 · have:i+1+(E.length-(i+1))=E.length:=by omega
   rw[this]
   have ln:=BS l E (j:=E.length) (Nat.le_refl _)
   generalize BR l E E.length=A at*
   generalize tU l E E.length=F at*
   simp (disch:=omega) only[go_sem,K.bC,↓reduceIte,Nat.reduceAdd,Nat.reduceSub]
theorem L9(l:List Int)(hll:l.length≤100000000)(E:List Edge)(hl:E.length≤1000):
 aG 1 N.ay [.ref 0 0 E.length,.fn N.cR [.bp 1 0]] [mq E 0,.box [.t (tL l)]]=
  some (.ref 0 (if(E.all (m5 l))=true then 0 else 1) (Fu l E).length,[mq (Fu l E) (if(E.all (m5 l))=true then 0 else 1),.box [.t (tL l)]]):=by
 refine av K.cJ rfl ?_
 have ix:=L6 l hll E hl
 cases hf:(List.range E.length).find? (fun j=>decide (((nth E j).r:Int)∈l))with
 | none=>
   rw[hf]at ix
   have al:E.all (m5 l)=true:=by
    rw[List.all_eq_true]
    intro e he
    obtain⟨j,hj,rfl⟩:=List.mem_iff_getElem.1 he
    have:=List.find?_eq_none.1 hf j (List.mem_range.2 hj)
    have e2:nth E j=E[j]:=b8 (List.getElem?_eq_getElem hj)
    rw[e2]at this
    unfold m5
    simpa using this
   have de:Fu l E=E:=by unfold Fu;exact List.filter_eq_self.2 (List.all_eq_true.1 al)
   rw[if_pos al,de]
   simp (disch:=omega) only[go_sem,K.ay,↓reduceIte,ix,Nat.reduceAdd,Nat.reduceSub]
 | some i=>
   rw[hf]at ix
   have hi:=List.mem_range.1 (List.mem_of_find?_eq_some hf)
   have hp:=List.find?_some hf
   have lt:∀j,j<i→m5 l (nth E j)=true:=by
    intro j hj
    have:=(List.find?_range_eq_some.1 hf).2.2 j hj
    unfold m5
    simpa using this
   have al:¬E.all (m5 l)=true:=by
    intro h
    have:=List.all_eq_true.1 h _ (ah hi)
    unfold m5 at this
    rw[hp]at this
    cases this
   have tk:tU l E i=E.take i:=by
    unfold tU
    rw[List.filter_eq_self]
    intro e he
    obtain⟨j,hj,rfl⟩:=List.mem_iff_getElem.1 he
    rw[List.length_take]at hj
    have:=lt j (by omega)
    have e2:nth E j=E[j]:=b8 (List.getElem?_eq_getElem (by omega))
    rw[e2]at this
    simpa using this
   have h00:(tU l E i).length=i:=by rw[tk,List.length_take];omega
   have h0:tU l E (i+1)=tU l E i:=by
    rw[vo l E hi]
    have:m5 l (nth E i)=false:=by unfold m5;rw[hp];rfl
    rw[this];simp
   have lp:=Pe l hll E hl i hi h0 h00
   have dl:=vn l E E.length
   have al2:=BS l E (j:=E.length) (Nat.le_refl _)
   have da:(BR l E E.length).take (Fu l E).length=Fu l E:=by
    unfold BR
    rw[BQ,List.take_left]
   rw[BQ]at dl
   rw[if_neg al]
   generalize BR l E E.length=A at*
   generalize Fu l E=F at*
   have ta:List.take F.length (List.map D.t (List.map Edge.e A))=List.map D.t (List.map Edge.e F):=by rw[← List.map_take,←List.map_take,da]
   have al3:E.length=(List.map D.t (List.map Edge.e A)).length:=by simp[al2]
   have ta2:∀x y:List D,List.take F.length (List.take F.length (List.map D.t (List.map Edge.e A))++x++y)=List.map D.t (List.map Edge.e F):=by
    intro x y
    rw[ta,List.append_assoc,List.take_left' (by simp)]
   have al4:∀z:D,E.length=(List.take F.length (List.map D.t (List.map Edge.e A))++List.replicate (E.length-F.length) z++List.drop E.length (List.map D.t (List.map Edge.e A))).length:=by
    intro z
    simp only[List.length_append,List.length_take,List.length_replicate,List.length_drop,List.length_map]
    omega
   have al5:=al4 (D.t (T.agg [T.int IntKind.i64 0,T.int IntKind.i64 0,T.int IntKind.i64 0,T.int IntKind.i64 0]))
   simp (disch:=omega) only[go_sem,K.ay,↓reduceIte,ix,lp,ta2,Nat.reduceAdd,Nat.reduceSub]
end Go.Ev
namespace Go.Ev
open Go
variable [Lib]
def kN(p:Nat→Bool)(l:List Int)(j:Nat):List Int:=((List.range j).filter p).map (nth l)
theorem AZ(p:Nat→Bool)(l:List Int)(j:Nat):(kN p l j).length≤j:=by
 unfold kN
 rw[List.length_map]
 have:=List.length_filter_le p (List.range j)
 rwa [List.length_range]at this
theorem tM(p:Nat→Bool)(l:List Int)(j:Nat):kN p l (j+1)=kN p l j++(if p j then [nth l j]else []):=by
 unfold kN
 rw[List.range_succ,List.filter_append,List.map_append]
 cases h:p j<;>simp[h]
def kA(p:Nat→Bool)(l:List Int)(j:Nat):List Int:=kN p l j++l.drop (kN p l j).length
theorem A0(p:Nat→Bool)(l:List Int){j:Nat}(hj:j≤l.length):(kA p l j).length=l.length:=by
 unfold kA
 have:=AZ p l j
 rw[List.length_append,List.length_drop];omega
theorem Pf{A B:List Int}{i:Nat}(h:A.length≤i):nth (A++B) i=nth B (i-A.length):=by
 unfold nth
 simp only[List.getD_eq_getElem?_getD,List.getElem?_append_right h]
theorem Ma{A:List Int}{k i:Nat}:nth (A.drop k) i=nth A (k+i):=by
 unfold nth
 simp only[List.getD_eq_getElem?_getD,List.getElem?_drop]
theorem Mb(p:Nat→Bool)(l:List Int)(j:Nat){i:Nat}(hi:(kN p l j).length≤i):nth (kA p l j) i=nth l i:=by
 unfold kA
 rw[Pf hi,Ma]
 congr 1
 omega
theorem Pg{l:List Int}{k:Nat}(h:k<l.length):l.drop k=nth l k::l.drop (k+1):=by
 rw[List.drop_eq_getElem_cons h]
 congr 1
 have:=ff h
 rw[List.getElem?_eq_getElem h]at this
 exact Option.some.inj this
theorem Q6(p:Nat→Bool)(l:List Int){j:Nat}(hj:j<l.length)(h:p j=true):(kA p l j).set (kN p l j).length (nth l j)=kA p l (j+1):=by
 unfold kA
 have dl:=AZ p l j
 rw[tM p l j,if_pos h,List.set_append_right _ _ (Nat.le_refl _),Nat.sub_self,List.length_append,List.length_singleton,List.append_assoc]
 congr 1
 rw[Pg (show(kN p l j).length<l.length by omega)]
 rfl
theorem Fv(p:Nat→Bool)(l:List Int){j:Nat}(h:p j=false):kN p l (j+1)=kN p l j∧kA p l (j+1)=kA p l j:=by
 have:kN p l (j+1)=kN p l j:=by rw[tM p l j,h];simp
 unfold kA
 rw[this]
 exact⟨rfl,rfl⟩
theorem Mc(p:Nat→Bool)(l:List Int):∀ {j:Nat},j≤l.length→(∀i,i<j→p i=true)→kN p l j=l.take j
 | 0,_,_=>rfl
 | j+1,hj,h=>by
   rw[tM,if_pos (h j (by omega)),Mc p l (by omega) (fun i hi=>h i (by omega)),List.take_succ,ff (by omega)]
   rfl
theorem He(p:Nat→Bool)(l:List Int){i:Nat}(hi:i<l.length)(h:∀k,k<i→p k=true)(hp:p i=false):kA p l (i+1)=l∧(kN p l (i+1)).length=i:=by
 have e:kN p l (i+1)=l.take i:=by
  rw[(Fv p l hp).1,Mc p l (by omega) h]
 constructor
 · unfold kA
   rw[e,List.length_take,Nat.min_eq_left (by omega),List.take_append_drop]
 · rw[e,List.length_take];omega
theorem aa8(p:Nat→Bool)(l:List Int)(j:Nat)(x:Int):x∈kN p l j↔∃i,i<j∧p i=true∧nth l i=x:=by
 unfold kN
 rw[List.mem_map]
 constructor
 · rintro ⟨i,hi,rfl⟩
   rw[List.mem_filter,List.mem_range]at hi
   exact⟨i,hi.1,hi.2,rfl⟩
 · rintro ⟨i,h1,h2,rfl⟩
   exact⟨i,List.mem_filter.2 ⟨List.mem_range.2 h1,h2⟩,rfl⟩
theorem Md(q:Int→Bool)(l:List Int):kN (fun i=>q (nth l i)) l l.length=l.filter q:=by
 have key:∀j,j≤l.length→kN (fun i=>q (nth l i)) l j=(l.take j).filter q:=by
  intro j
  induction j with
  | zero=>intro _;rfl
  | succ j ih=>
    intro hj
    rw[tM,ih (by omega),List.take_succ,ff (by omega),List.filter_append]
    simp only[Option.toList_some]
    cases h:q (nth l j)<;>simp[h]
 rw[key _ (Nat.le_refl _),List.take_length]
def fF(l:List Int)(i:Nat):Bool:=decide (i=0)||decide (nth l i≠nth l (i-1))
def zr(l:List Int):List Int:=kN (fF l) l l.length
theorem Ph{l:List Int}(h:l.Pairwise (· ≤ ·))(x:Int):x∈zr l↔x∈l:=by
 unfold zr
 rw[aa8]
 constructor
 · rintro ⟨i,h1,_,rfl⟩;exact ah h1
 · intro hx
   obtain⟨j,hj⟩:=List.mem_iff_getElem?.1 hx
   have jl:=(List.getElem?_eq_some_iff.1 hj).1
   have key:∀j,j<l.length→∃i,i<l.length∧fF l i=true∧nth l i=nth l j:=by
    intro j
    induction j with
    | zero=>intro h0;exact⟨0,h0,by simp[fF],rfl⟩
    | succ j ih=>
      intro hj
      by_cases c:nth l (j+1)=nth l j
      · obtain⟨i,h1,h2,h3⟩:=ih (by omega)
        exact⟨i,h1,h2,by rw[h3,c]⟩
      · exact⟨j+1,hj,by unfold fF;simp[c],rfl⟩
   obtain⟨i,h1,h2,h3⟩:=key j jl
   exact⟨i,h1,h2,by rw[h3,b8 hj]⟩
def Me(a b:List Int):List Int:=zr (gn (a++b))
theorem Pj(a b:List Int)(x:Int):x∈Me a b↔x∈a∨x∈b:=by
 unfold Me
 rw[Ph (rA _),(iU _).mem_iff,List.mem_append]
theorem Pk(a b:List Int):(Me a b).length≤a.length+b.length:=by
 unfold Me zr
 have:=AZ (fF (gn (a++b))) (gn (a++b)) (gn (a++b)).length
 rw[iK,List.length_append]at this
 rw[iK,List.length_append]
 exact this
end Go.Ev
namespace Go.Ev
open Go
variable [Lib] [cu] [bP] [gG] [gM] [jO] [fW] [fS] [iR] [gF] [eX] [dT] [jD] [iW] [mZ] [lZ] [jP] [jE] [oe]
def IG(m:aK)(p:Nat):Nat→Int
 | 0=>0
 | j+1=>if(nth m.roads j).frm=p then max (if(nth m.roads j).to=p then max (IG m p j) (rP m j false)else IG m p j) (rP m j true)
  else(if(nth m.roads j).to=p then max (IG m p j) (rP m j false)else IG m p j)
def U7(m:aK)(p:Nat):Int:=IG m p m.roads.length
theorem Fw{m:aK}(hm:m.ok)(p:Nat):∀j,j≤m.roads.length→0≤IG m p j∧IG m p j≤500001
 | 0,_=>by simp[IG]
 | j+1,hj=>by
   have ih:=Fw hm p j (by omega)
   have b1:=nD hm j (by omega) false
   have b2:=nD hm j (by omega) true
   unfold IG
   split<;>split<;>omega
theorem U8{m:aK}(hm:m.ok)(p:Nat)(hp:p<m.places.length):aG 0 N.kI [.t m.e,I p] []=some (I (U7 m p),[]):=by
 refine av K.wJ rfl ?_
 have np:=hm.np
 have nr:=hm.nr
 have loop:∀z0 z3 z5 z6:D,exS aG K.zp ⟨[z0,I p,.bp 0 0,z3,I 0,z5,z6,.t (.sl (m.roads.map Road.e)),I m.roads.length,I 0],[.box (aa m)]⟩=
  some (.exit 0,⟨[.und,I p,.bp 0 0,.und,I (U7 m p),.und,.und,.t (.sl (m.roads.map Road.e)),I m.roads.length,I m.roads.length],[.box (aa m)]⟩):=by
  intro z0 z3 z5 z6
  refine b7 (fun j=>⟨[.und,I p,.bp 0 0,.und,I (IG m p j),.und,.und,.t (.sl (m.roads.map Road.e)),I m.roads.length,I j],[.box (aa m)]⟩) m.roads.length rfl ?_ ?_ (by simp)
  · intro j hj
    have w1:=pT hm j hj false
    have w2:=pT hm j hj true
    have b0:=Fw hm p j (by omega)
    have b1:=nD hm j hj false
    have b2:=nD hm j hj true
    have ex:(m.roads.map Road.e)[j]?=some (nth m.roads j).e:=eU _ hj
    conv=>rhs;unfold IG
    generalize IG m p j=L at*
    generalize rP m j false=u at*
    generalize rP m j true=v at*
    generalize nth m.roads j=x at*
    obtain⟨frm,to,len,ar,walk,closed,rl,rh,ll,lh⟩:=x
    simp only at*
    obtain⟨places,roads⟩:=m
    simp only[aa]at*
    by_cases c1:frm=p<;>by_cases c2:to=p
    all_goals simp (disch:=omega) only[go_sem,K.qS,↓reduceIte,ex,w1,w2,c1,c2,Nat.reduceAdd,Nat.reduceSub]
  · obtain⟨places,roads⟩:=m
    simp only[aa]at*
    simp (disch:=omega) only[go_sem,K.qS,↓reduceIte,Nat.reduceAdd,Nat.reduceSub]
    rfl
 generalize U7 m p=r at*
 obtain⟨places,roads⟩:=m
 simp only[aa]at*
 simp (disch:=omega) only[go_sem,K.kI,↓reduceIte,loop,Nat.reduceAdd,Nat.reduceSub]
abbrev Ck(P:List Edge):List Int:=P.map fun e=>(e.r:Int)
abbrev Mf(P:List Edge):List Int:=P.map fun e=>(e.b:Int)
def w1E(m:aK)(e:Esc)(p:Nat):List Edge:=XY (jd m e) (sfL m e) (bdL m e) m.places.length p
def c1E(m:aK)(e:Esc)(p:Nat):Int:=(nth (ma (jd m e) (sfL m e) (bdL m e) m.places.length) p).t
def bd2(m:aK)(e:Esc)(p:Nat):List Bool:=wM (bdL m e) (Mf (w1E m e p)) (Mf (w1E m e p)).length
def st2(m:aK)(e:Esc)(p:Nat):List Edge:=Fu (Ck (w1E m e p)) (jd m e)
def w2E(m:aK)(e:Esc)(p:Nat):List Edge:=XY (st2 m e p) (sfL m e) (bd2 m e p) m.places.length p
def c2E(m:aK)(e:Esc)(p:Nat):Int:=(nth (ma (st2 m e p) (sfL m e) (bd2 m e p) m.places.length) p).t
def agm(m:aK)(e:Esc)(p:Nat):D:=
 if nth (sfL m e) p=true then .tup [.t (tL []),.t (tL []),.t (.agg [tI 0,tI 0]),B true]
 else if c1E m e p<lz then
  if c2E m e p<lz then .tup [.t (tL (Ck (w1E m e p))),.t (tL (Ck (w2E m e p))),.t (.agg [tI (c1E m e p),tI (c2E m e p)]),B true]
  else .tup [.t (tL []),.t (tL []),.t (.agg [tI (c1E m e p),tI 0]),B false]
 else .tup [.t (tL []),.t (tL []),.t (.agg [tI 0,tI 0]),B false]
theorem mb{m:aK}(hm:m.ok)(e:Esc):∀x∈jd m e,x.ok m.places.length:=DK hm e _ (Nat.le_refl _)
theorem Mg{m:aK}(hm:m.ok)(e:Esc):(jd m e).length≤256:=by have:=rG m e m.roads.length;have:=hm.nr;unfold jd;omega
theorem Fx{n:Nat}(l:List Int){E:List Edge}(h:∀e∈E,e.ok n):∀e∈Fu l E,e.ok n:=fun e he=>h e (List.mem_filter.1 he).1
theorem Pl(l:List Int)(E:List Edge):(Fu l E).length≤E.length:=List.length_filter_le _ _
theorem aa9{m:aK}(hm:m.ok)(e:Esc){p:Nat}(hp:p<m.places.length)(hf:c1E m e p<lz):QX lz m.places.length (jd m e) (uB (sfL m e) (bdL m e)) (vl (sfL m e)) (ma (jd m e) (sfL m e) (bdL m e) m.places.length) p (w1E m e p):=
 LM (Fq (mb hm e)) (mb hm e) _ p hp hf (Nat.le_refl _)
theorem U9{m:aK}(hm:m.ok)(e:Esc){p:Nat}(hp:p<m.places.length)(hf:c1E m e p<lz):(w1E m e p).length≤64000000:=by
 have key:∀k p,(oc (vl (sfL m e)) (uB (sfL m e) (bdL m e)) (jd m e) (ma (jd m e) (sfL m e) (bdL m e) m.places.length) k p).length≤k:=by
  intro k
  induction k with
  | zero=>intro p;simp[oc]
  | succ k ih=>
    intro p
    unfold oc
    split
    · simp
    · split
      · have:=ih (by assumption:Edge).b;simp;omega
      · simp
 have h1:=key (nth (ma (jd m e) (sfL m e) (bdL m e) m.places.length) p).r.toNat p
 have h2:=wK (sf:=sfL m e) (bd:=bdL m e) (mb hm e) hm.np hp hf
 unfold w1E XY
 omega
theorem Pm(E:List Edge)(sf bd:List Bool)(n:Nat)(hs:sf.length=n)(hb:bd.length=n)(p:Nat)(m:aK)(e:Esc)(W M:List Int)(hM:∀x∈M,0≤x∧x<n)(hl:M.length≤100000000)(hn:n≤64)(t1:Int)(z0 z1 z3 z4 z6 z8 z10 z11 z12:D):
 exS aG K.zo ⟨[z0,z1,I p,z3,z4,.bp 2 0,z6,.bp 3 0,z8,.bp 7 0,z10,z11,z12,.t (tL M),I M.length,I 0],[.box (aa m),.box (kn e),.box [.t (tL W)],.box [I t1,I 0],mq E 0,je sf,je bd,.box (zD 4 E 0 n)]⟩=
  some (.exit 0,⟨[.und,.und,I p,.und,.und,.bp 2 0,.und,.bp 3 0,.und,.bp 7 0,.und,.und,.und,.t (tL M),I M.length,I M.length],[.box (aa m),.box (kn e),.box [.t (tL W)],.box [I t1,I 0],mq E 0,je sf,je (wM bd M M.length),.box (zD 4 E 0 n)]⟩):=by
 refine b7 (fun j=>⟨[.und,.und,I p,.und,.und,.bp 2 0,.und,.bp 3 0,.und,.bp 7 0,.und,.und,.und,.t (tL M),I M.length,I j],[.box (aa m),.box (kn e),.box [.t (tL W)],.box [I t1,I 0],mq E 0,je sf,je (wM bd M j),.box (zD 4 E 0 n)]⟩) M.length (by simp only[go_sem,wM]) ?_ ?_ (by simp)
 · intro j hj
   have ln:=kJ bd M j
   have hx:=hM _ (ah hj)
   simp only[wM]
   generalize wM bd M j=L at*
   simp (disch:=omega) only[go_sem,K.qR,↓reduceIte,x9,Nat.reduceAdd,Nat.reduceSub]
 · have ln:=kJ bd M M.length
   generalize wM bd M M.length=L at*
   simp (disch:=omega) only[go_sem,K.qR,↓reduceIte,Nat.reduceAdd,Nat.reduceSub]
theorem aba{m:aK}(hm:m.ok){e:Esc}(he:e.ok m)(p:Nat)(hp:p<m.places.length):aG 0 N.iD [.t m.e,.t e.e,I p] []=some (agm m e p,[]):=by
 refine av K.wI rfl ?_
 have np:=hm.np
 have th:=DI hm he p hp
 have fi:=U4 hm he (by omega)
 have wl:=Mg hm e
 have s1:=Fs m e
 have s2:=L3 m e
 have b1:=LZ (jd m e) (sfL m e) (bdL m e) 0 m.places.length s1 s2 np (mb hm e) (by omega) p hp
 unfold agm
 cases hsp:nth (sfL m e) p with
 | true=>
   rw[if_pos rfl]
   generalize sfL m e=sf at*
   generalize bdL m e=bd at*
   generalize jd m e=E at*
   obtain⟨places,roads⟩:=m
   obtain⟨safe,bad,shut,limit⟩:=e
   simp only[aa,kn]at*
   simp (disch:=omega) only[go_sem,K.iD,↓reduceIte,th,fi,hsp,Nat.reduceAdd,Nat.reduceSub]
   rfl
 | false=>
   rw[if_neg (by simp)]
   have pk:=fun hf=>aa9 hm e hp hf
   have wl1:=fun hf=>U9 hm e hp hf
   have dl:=L9 (Ck (w1E m e p))
   have lp:=Pm (jd m e) (sfL m e) (bdL m e) m.places.length s1 s2 p m e (Ck (w1E m e p)) (Mf (w1E m e p))
   have b2:=fun ep=>LZ (st2 m e p) (sfL m e) (bd2 m e p) ep m.places.length s1 (by unfold bd2;rw[kJ,s2]) np (Fx _ (mb hm e)) (by have:=Pl (Ck (w1E m e p)) (jd m e);unfold st2;omega) p hp
   have e2:wM (bdL m e) (Mf (w1E m e p)) (Mf (w1E m e p)).length=bd2 m e p:=rfl
   have e3:Fu (Ck (w1E m e p)) (jd m e)=st2 m e p:=rfl
   have db:O8 (jd m e) (sfL m e) (bdL m e) m.places.length p=if c1E m e p<lz then .tup [.t (tL (Ck (w1E m e p))),I (c1E m e p),.t (tL ((p:Int)::Mf (w1E m e p))),B true]else .tup [.t (tL []),I 0,.t (tL []),B false]:=rfl
   have db2:O8 (st2 m e p) (sfL m e) (bd2 m e p) m.places.length p=if c2E m e p<lz then .tup [.t (tL (Ck (w2E m e p))),I (c2E m e p),.t (tL ((p:Int)::Mf (w2E m e p))),B true]else .tup [.t (tL []),I 0,.t (tL []),B false]:=rfl
   by_cases h1:c1E m e p<lz
   · rw[if_pos h1]
     rw[if_pos h1]at db
     have pk:=pk h1
     have wl1:=wl1 h1
     have pm:∀x∈Mf (w1E m e p),0≤x∧x<m.places.length:=by
      intro x hx
      obtain⟨y,hy,rfl⟩:=List.mem_map.1 hx
      have:=(pk.mem y hy).2.2
      omega
     have lp:=lp pm (by simp;omega) np (c1E m e p)
     have dl:=dl (by simp;omega) (jd m e) (by omega)
     rw[e2]at lp
     rw[e3]at dl
     rw[db]at b1
     have c1:=wK (sf:=sfL m e) (bd:=bdL m e) (mb hm e) np hp h1
     have c2:=fun h2=>wK (sf:=sfL m e) (bd:=bd2 m e p) (Fx (Ck (w1E m e p)) (mb hm e)) np hp h2
     have ml:(Mf (w1E m e p)).length≤64000000:=by simp;omega
     have rl:(Ck (w1E m e p)).length≤64000000:=by simp;omega
     have e4:(nth (ma (jd m e) (sfL m e) (bdL m e) m.places.length) p).t=c1E m e p:=rfl
     rw[e4]at c1
     generalize hep:(if(jd m e).all (m5 (Ck (w1E m e p)))=true then 0 else 1)=ep at*
     have b2:=b2 ep
     rw[db2]at b2
     clear db db2 e2 e3 pm pk wl1 e4 hep c2
     generalize Mf (w1E m e p)=PM at*
     generalize Ck (w1E m e p)=PR at*
     generalize Mf (w2E m e p)=QM at*
     generalize Ck (w2E m e p)=QR at*
     generalize c1E m e p=t1 at*
     generalize c2E m e p=t2 at*
     generalize st2 m e p=E2 at*
     generalize bd2 m e p=bdx at*
     generalize sfL m e=sf at*
     generalize bdL m e=bd at*
     generalize jd m e=E at*
     obtain⟨places,roads⟩:=m
     obtain⟨safe,bad,shut,limit⟩:=e
     simp only[aa,kn]at*
     simp (disch:=omega) only[go_sem,K.iD,↓reduceIte,th,fi,hsp,b1,Nat.reduceMul,Nat.reduceAdd,Nat.reduceSub]
     refine iP (lp _ _ _ _ _ _ _ _ _) ?_
     by_cases h2:t2<lz
     · rw[if_pos h2]
       rw[if_pos h2]at b2
       simp (disch:=omega) only[go_sem,K.iD,↓reduceIte,dl,b2,Nat.reduceMul,Nat.reduceAdd,Nat.reduceSub]
     · rw[if_neg h2]
       rw[if_neg h2]at b2
       simp (disch:=omega) only[go_sem,K.iD,↓reduceIte,dl,b2,Nat.reduceMul,Nat.reduceAdd,Nat.reduceSub]
       rfl
   · rw[if_neg h1]
     rw[if_neg h1]at db
     rw[db]at b1
     clear db db2 b2 e2 e3 lp dl wl1 pk
     generalize sfL m e=sf at*
     generalize bdL m e=bd at*
     generalize jd m e=E at*
     obtain⟨places,roads⟩:=m
     obtain⟨safe,bad,shut,limit⟩:=e
     simp only[aa,kn,tL,List.map_nil]at*
     simp (disch:=omega) only[go_sem,K.iD,↓reduceIte,th,fi,hsp,b1,Nat.reduceAdd,Nat.reduceSub]
def kG(m:aK)(e:Esc)(p:Nat):Bool:=
 if nth (sfL m e) p=true then decide (U7 m p≤e.limit)
 else decide (c1E m e p<lz∧c2E m e p<lz∧U7 m p+max (c1E m e p) (c2E m e p)≤e.limit)
theorem IH{m:aK}(hm:m.ok){e:Esc}(he:e.ok m)(p:Nat)(hp:p<m.places.length):aG 0 N.cI [.t m.e,.t e.e,I p] []=some (B (kG m e p),[]):=by
 refine av K.pR rfl ?_
 have tw:=aba hm he p hp
 have lg:=U8 hm p hp
 have lb:=Fw hm p m.roads.length (Nat.le_refl _)
 have le:IG m p m.roads.length=U7 m p:=rfl
 rw[le]at lb
 have c1:=fun h1=>wK (sf:=sfL m e) (bd:=bdL m e) (mb hm e) hm.np hp h1
 have c2:=fun h2=>wK (sf:=sfL m e) (bd:=bd2 m e p) (Fx (Ck (w1E m e p)) (mb hm e)) hm.np hp h2
 have e1:(nth (ma (jd m e) (sfL m e) (bdL m e) m.places.length) p).t=c1E m e p:=rfl
 have e2:(nth (ma (Fu (Ck (w1E m e p)) (jd m e)) (sfL m e) (bd2 m e p) m.places.length) p).t=c2E m e p:=rfl
 rw[e1]at c1
 rw[e2]at c2
 unfold kG
 unfold agm at tw
 generalize U7 m p=lag at*
 generalize c1E m e p=t1 at*
 generalize c2E m e p=t2 at*
 generalize tL (Ck (w1E m e p))=PR at*
 generalize tL (Ck (w2E m e p))=QR at*
 generalize tL []=NR at*
 have fc:lz=1152921504606846976:=rfl
 clear e1 e2 le
 cases hs:nth (sfL m e) p with
 | true=>
   rw[hs,if_pos rfl]at tw
   rw[if_pos rfl]
   clear hs c1 c2
   obtain⟨places,roads⟩:=m
   obtain⟨safe,bad,shut,limit⟩:=e
   have:=he.l0
   have:=he.l1
   simp only at*
   have mx:max (0:Int) 0=0:=by omega
   by_cases c:lag≤limit
   · simp (disch:=omega) only[go_sem,K.cI,↓reduceIte,tw,lg,c,Int.add_zero,mx,decide_true,Nat.reduceMul,Nat.reduceAdd,Nat.reduceSub]
   · simp (disch:=omega) only[go_sem,K.cI,↓reduceIte,tw,lg,c,Int.add_zero,mx,decide_false,Nat.reduceMul,Nat.reduceAdd,Nat.reduceSub]
 | false=>
   rw[hs,if_neg (by simp)]at tw
   rw[if_neg (by simp)]
   clear hs
   obtain⟨places,roads⟩:=m
   obtain⟨safe,bad,shut,limit⟩:=e
   have:=he.l0
   have:=he.l1
   simp only at*
   by_cases h1:t1<lz
   · rw[if_pos h1]at tw
     have c1:=c1 h1
     by_cases h2:t2<lz
     · rw[if_pos h2]at tw
       have c2:=c2 h2
       by_cases c:lag+max t1 t2≤limit
       · simp (disch:=omega) only[go_sem,K.cI,↓reduceIte,tw,lg,c,h1,h2,decide_true,Nat.reduceMul,and_self,Nat.reduceAdd,Nat.reduceSub]
       · simp (disch:=omega) only[go_sem,K.cI,↓reduceIte,tw,lg,c,h1,h2,decide_false,Nat.reduceMul,and_false,Nat.reduceAdd,Nat.reduceSub]
     · rw[if_neg h2]at tw
       clear c2
       simp (disch:=omega) only[go_sem,K.cI,↓reduceIte,tw,lg,h2,false_and,and_false,decide_false,Nat.reduceAdd,Nat.reduceSub]
   · rw[if_neg h1]at tw
     clear c1 c2
     simp (disch:=omega) only[go_sem,K.cI,↓reduceIte,tw,lg,h1,false_and,decide_false,Nat.reduceAdd,Nat.reduceSub]
theorem Va(n:Int)(h0:0≤n)(h1:n≤4294967296):aG 1 N.bN [.nil,I n] []=some (.ref 0 0 0,[.arr 1 false 0 []]):=by
 refine yS K.iN (by simp[K.bN]) ?_
 show(if 0≤n∧n≤4294967296 then _ else _)=_
 rw[if_pos ⟨h0,h1⟩]
 rfl
def adF(a b:List Int):Nat→Nat
 | 0=>0
 | 1=>a.length
 | _=>a.length+b.length
def abb(a b:List Int):Nat→List Int
 | 0=>[]
 | 1=>a
 | _=>a++b
theorem Mh(a b:List Int)(ha:a.length≤100000)(hb:b.length≤100000):aG 1 N.bg [.t (.sl [tL a,tL b])] []=some (.ref 0 0 (a++b).length,[sA (a++b)]):=by
 refine av K.gV rfl ?_
 have gr:=Va (a.length+b.length) (by omega) (by omega)
 have l1:∀z1 z3 z4 z5 z9 z10 z11:D,exS aG K.jL ⟨[.t (.sl [tL a,tL b]),z1,I 0,z3,z4,z5,.t (.sl [tL a,tL b]),I 2,I 0,z9,z10,z11],[]⟩=
  some (.exit 0,⟨[.t (.sl [tL a,tL b]),.und,I (a.length+b.length),.und,.und,.und,.t (.sl [tL a,tL b]),I 2,I 2,.und,.und,.und],[]⟩):=by
  intro z1 z3 z4 z5 z9 z10 z11
  refine b7 (fun j=>⟨[.t (.sl [tL a,tL b]),.und,I (adF a b j),.und,.und,.und,.t (.sl [tL a,tL b]),I 2,I j,.und,.und,.und],[]⟩) 2 rfl ?_ ?_ (by simp)
  · intro j hj
    have:j=0∨j=1:=by omega
    rcases this with rfl | rfl
    · simp only[adF]
      simp (disch:=omega) only[go_sem,K.ei,↓reduceIte,Int.natCast_zero,Int.zero_add,Nat.reduceAdd,Nat.reduceSub]
    · simp only[adF]
      simp (disch:=omega) only[go_sem,K.ei,↓reduceIte,Nat.reduceAdd,Nat.reduceSub]
      rfl
  · simp only[adF]
    simp (disch:=omega) only[go_sem,K.ei,↓reduceIte,Nat.reduceAdd,Nat.reduceSub]
 have l2:∀z0 z1 z2 z3 z5 z6 z7 z8:D,exS aG K.jM ⟨[z0,z1,z2,z3,.ref 0 0 0,z5,z6,z7,z8,.t (.sl [tL a,tL b]),I 2,I 0],[sA []]⟩=
  some (.exit 2,⟨[.und,.und,.und,.und,.ref 0 0 (a++b).length,.und,.und,.und,.und,.t (.sl [tL a,tL b]),I 2,I 2],[sA (a++b)]⟩):=by
  intro z0 z1 z2 z3 z5 z6 z7 z8
  refine b7 (fun j=>⟨[.und,.und,.und,.und,.ref 0 0 (abb a b j).length,.und,.und,.und,.und,.t (.sl [tL a,tL b]),I 2,I j],[sA (abb a b j)]⟩) 2 rfl ?_ ?_ (by simp)
  · intro j hj
    have:j=0∨j=1:=by omega
    rcases this with rfl | rfl
    · simp only[abb]
      simp (disch:=omega) only[go_sem,K.et,↓reduceIte,Nat.reduceAdd,Nat.reduceSub]
    · simp only[abb]
      simp (disch:=omega) only[go_sem,K.et,↓reduceIte,Nat.reduceAdd,Nat.reduceSub]
      simp only[sA,List.map_append]
      rfl
  · simp only[abb]
    simp (disch:=omega) only[go_sem,K.et,↓reduceIte,Nat.reduceAdd,Nat.reduceSub]
 generalize hc:a++b=c at l2 ⊢
 simp (disch:=omega) only[go_sem,K.bg,↓reduceIte,l1,gr,Nat.reduceAdd,Nat.reduceSub]
 refine iP (l2 _ _ _ _ _ _ _ _) ?_
 simp (disch:=omega) only[go_sem,K.bg,↓reduceIte,Nat.reduceAdd,Nat.reduceSub]
theorem Mi(l:List Int):(∀i,i<l.length→fF l i=true)∨∃k,1≤k∧k<l.length∧fF l k=false∧∀i,i<k→fF l i=true:=by
 by_cases h:∀i,i<l.length→fF l i=true
 · exact .inl h
 · right
   have:∃k,k<l.length∧fF l k=false:=by
    apply Classical.byContradiction
    intro hn
    exact h fun i hi=>by
     cases hc:fF l i with
     | true=>rfl
     | false=>exact absurd ⟨i,hi,hc⟩ hn
   obtain⟨k,hk,hf⟩:=this
   induction k using Nat.strongRecOn with
   | ind k ih=>
     by_cases hx:∀i,i<k→fF l i=true
     · refine⟨k,?_,hk,hf,hx⟩
       by_cases c:k=0
       · subst c;simp[fF]at hf
       · omega
     · have:∃i,i<k∧fF l i=false:=by
        apply Classical.byContradiction
        intro hn
        exact hx fun i hi=>by
         cases hc:fF l i with
         | true=>rfl
         | false=>exact absurd ⟨i,hi,hc⟩ hn
       obtain⟨i,h1,h2⟩:=this
       exact ih i h1 (by omega) h2
theorem abc(l:List Int)(hl:l.length≤200000)(k:Nat)(h1:1≤k)(hk:k<l.length)(hf:fF l k=false)(hx:∀i,i<k→fF l i=true)(z1:D):
 exS aG K.jv ⟨[.ref 0 0 l.length,z1,I k,.sub 0 0 l.length k l.length,I 1],[sA l]⟩=
  some (.exit 2,⟨[.ref 0 0 l.length,.und,I (zr l).length,.sub 0 0 l.length k l.length,I (l.length-k)],[sA (kA (fF l) l l.length)]⟩):=by
 obtain⟨e1,e2⟩:=He (fF l) l hk hx hf
 refine b7 (fun i=>⟨[.ref 0 0 l.length,.und,I (kN (fF l) l (k+1+i)).length,.sub 0 0 l.length k l.length,I (1+i:Nat)],[sA (kA (fF l) l (k+1+i))]⟩) (l.length-(k+1)) ?_ ?_ ?_ (by simp)
 · simp only[Nat.add_zero,e1,e2]
   rfl
 · intro i hi
   have hj:k+1+i<l.length:=by omega
   have kl:(kN (fF l) l (k+1+i)).length≤k+i:=by
    have key:∀i,(kN (fF l) l (k+1+i)).length≤k+i:=by
     intro i
     induction i with
     | zero=>rw[Nat.add_zero,e2];omega
     | succ i ih=>
       rw[show k+1+(i+1)=(k+1+i)+1 from rfl,tM]
       split<;>simp<;>omega
    exact key i
   have n1:=Mb (fF l) l (k+1+i) (i:=k+1+i) (by omega)
   have n2:=Mb (fF l) l (k+1+i) (i:=k+i) (by omega)
   have ln:=A0 (fF l) l (j:=k+1+i) (by omega)
   have st:=Q6 (fF l) l hj
   have sm:=Fv (fF l) l (j:=k+1+i)
   have sp:=tM (fF l) l (k+1+i)
   have fb:fF l (k+1+i)=decide (nth l (k+1+i)≠nth l (k+i)):=by
    unfold fF
    rw[decide_eq_false (by omega),Bool.false_or,show k+1+i-1=k+i by omega]
   rw[show k+1+(i+1)=k+1+i+1 from rfl]
   generalize kA (fF l) l (k+1+i)=A at*
   generalize kN (fF l) l (k+1+i)=F at*
   have x1:nth A (k+(1+i))=nth l (k+1+i):=by rw[← n1];congr 1;omega
   have x2:nth A (k+i)=nth l (k+i):=n2
   have t1:(1+(i:Int)).toNat=1+i:=by omega
   have t2:(1+(i:Int)-1).toNat=i:=by omega
   by_cases c:nth l (k+1+i)=nth l (k+i)
   · rw[(sm (by rw[fb];simp[c])).1,(sm (by rw[fb];simp[c])).2]
     simp (disch:=omega) only[go_sem,K.dR,↓reduceIte,t1,t2,x1,x2,c,not_true_eq_false,Int.add_assoc,Nat.reduceAdd,Nat.reduceSub]
   · rw[← st (by rw[fb];simp[c]),sp,if_pos (by rw[fb];simp[c])]
     simp (disch:=omega) only[go_sem,K.dR,↓reduceIte,t1,t2,x1,x2,c,Kh,List.length_append,List.length_singleton,not_false_eq_true,Int.add_assoc,Nat.reduceAdd,Nat.reduceSub]
 · have:k+1+(l.length-(k+1))=l.length:=by omega
   rw[this]
   have ln:=A0 (fF l) l (j:=l.length) (Nat.le_refl _)
   unfold zr
   generalize kA (fF l) l l.length=A at*
   generalize kN (fF l) l l.length=F at*
   have t3:(1:Int)+((l.length-(k+1):Nat):Int)=(l.length:Int)-k:=by omega
   simp (disch:=omega) only[go_sem,K.dR,↓reduceIte,t3,Nat.reduceAdd,Nat.reduceSub]
theorem Mj(l:List Int)(hl:l.length≤200000)(h2:2≤l.length)(h:∀i,i<l.length→fF l i=true)(z1 z3 z4:D):
 exS aG K.gg ⟨[.ref 0 0 l.length,z1,I 1,z3,z4],[sA l]⟩=some (.exit 0,⟨[.ref 0 0 l.length,.und,I l.length,.und,.und],[sA l]⟩):=by
 refine b7 (fun i=>⟨[.ref 0 0 l.length,.und,I (1+i:Nat),.und,.und],[sA l]⟩) (l.length-1) rfl ?_ ?_ (by simp)
 · intro i hi
   have fb:=h (1+i) (by omega)
   have c:¬nth l (1+i)=nth l i:=by
    unfold fF at fb
    rw[decide_eq_false (by omega),Bool.false_or,show 1+i-1=i by omega]at fb
    simpa using fb
   have t1:(1+(i:Int)).toNat=1+i:=by omega
   have t2:(1+(i:Int)-1).toNat=i:=by omega
   simp (disch:=omega) only[go_sem,K.bZ,↓reduceIte,t1,t2,c,Int.add_assoc,Nat.reduceAdd,Nat.reduceSub]
 · have t3:(1:Int)+((l.length-1:Nat):Int)=(l.length:Int):=by omega
   simp (disch:=omega) only[go_sem,K.bZ,↓reduceIte,t3,Nat.reduceAdd,Nat.reduceSub]
theorem II(l:List Int)(hl:l.length≤200000)(k:Nat)(h1:1≤k)(hk:k<l.length)(hf:fF l k=false)(hx:∀i,i<k→fF l i=true)(z1 z3 z4:D):
 exS aG K.gg ⟨[.ref 0 0 l.length,z1,I 1,z3,z4],[sA l]⟩=some (.ret,⟨[.ref 0 0 l.length,.ref 0 1 (zr l).length,I (zr l).length,.sub 0 0 l.length k l.length,I (l.length-k)],[.arr 1 false 1 (((zr l).map (T.int .i64)).map .t)]⟩):=by
 have key:=G0 (vs:=[.ref 0 0 l.length,z1,I 1,z3,z4]) (H:=[sA l]) (c:=K.bZ) (gc:=true) (dead:=[1,3,4])
  (fun i st=>st=⟨[.ref 0 0 l.length,.und,I (1+i:Nat),.und,.und],[sA l]⟩) (k-1) (fun q=>q=(.ret,⟨[.ref 0 0 l.length,.ref 0 1 (zr l).length,I (zr l).length,.sub 0 0 l.length k l.length,I (l.length-k)],[.arr 1 false 1 (((zr l).map (T.int .i64)).map .t)]⟩)) rfl ?_ ?_
 · obtain⟨q,h1,rfl⟩:=key
   exact h1
 · rintro i st hi rfl
   have fb:=hx (1+i) (by omega)
   have c:¬nth l (1+i)=nth l i:=by
    unfold fF at fb
    rw[decide_eq_false (by omega),Bool.false_or,show 1+i-1=i by omega]at fb
    simpa using fb
   have t1:(1+(i:Int)).toNat=1+i:=by omega
   have t2:(1+(i:Int)-1).toNat=i:=by omega
   refine⟨_,?_,rfl⟩
   simp (disch:=omega) only[go_sem,K.bZ,↓reduceIte,t1,t2,c,Int.add_assoc,Nat.reduceAdd,Nat.reduceSub]
 · rintro st rfl
   rw[show 1+(k-1)=k by omega]
   have c:nth l k=nth l (k-1):=by
    unfold fF at hf
    rw[decide_eq_false (by omega),Bool.false_or]at hf
    simpa using hf
   have t2:((k:Int)-1).toNat=k-1:=by omega
   have l2:=abc l hl k h1 hk hf hx
   have cl:(zr l).length≤l.length:=AZ _ _ _
   have ln:=A0 (fF l) l (j:=l.length) (Nat.le_refl _)
   have tk:(kA (fF l) l l.length).take (zr l).length=zr l:=by
    unfold kA zr
    rw[List.take_left]
   generalize kA (fF l) l l.length=A at*
   generalize zr l=U at*
   have al3:l.length=(List.map D.t (List.map (T.int .i64) A)).length:=by simp[ln]
   have al5:l.length=(List.take U.length (List.map D.t (List.map (T.int .i64) A))++List.replicate (l.length-U.length) (D.t (T.int .i64 0))++List.drop l.length (List.map D.t (List.map (T.int .i64) A))).length:=by
    simp only[List.length_append,List.length_take,List.length_replicate,List.length_drop,List.length_map]
    omega
   have ta:List.take U.length (List.map D.t (List.map (T.int .i64) A))=List.map D.t (List.map (T.int .i64) U):=by rw[← List.map_take,←List.map_take,tk]
   have ta2:∀x y:List D,List.take U.length (List.take U.length (List.map D.t (List.map (T.int .i64) A))++x++y)=List.map D.t (List.map (T.int .i64) U):=by
    intro x y
    rw[ta,List.append_assoc,List.take_left' (by simp)]
   refine⟨_,?_,?_,rfl⟩
   · simp (disch:=omega) only[go_sem,K.bZ,↓reduceIte,t2,c,l2,ta2,Nat.reduceAdd,Nat.reduceSub]
   · simp
abbrev zP(l:List Int)(ep:Nat):Obj:= .arr 1 false ep ((l.map (T.int .i64)).map .t)
theorem Vb{l:List Int}(h:∀i,i<l.length→fF l i=true):zr l=l:=by
 unfold zr
 rw[Mc _ _ (Nat.le_refl _) h,List.take_length]
theorem IJ(l:List Int)(hl:l.length≤200000):∃ep,aG 1 N.aQ [.ref 0 0 l.length] [sA l]=some (.ref 0 ep (zr l).length,[zP (zr l) ep]):=by
 rcases Mi l with h | ⟨k,h1,hk,hf,hx⟩
 · refine⟨0,av K.eL rfl ?_⟩
   rw[Vb h]
   by_cases h2:l.length<2
   · simp (disch:=omega) only[go_sem,K.aQ,↓reduceIte,h2,Nat.reduceAdd,Nat.reduceSub]
   · have l1:=Mj l hl (by omega) h
     simp (disch:=omega) only[go_sem,K.aQ,↓reduceIte,h2,l1,Nat.reduceAdd,Nat.reduceSub]
 · refine⟨1,av K.eL rfl ?_⟩
   have l1:=II l hl k h1 hk hf hx
   have h2:¬l.length<2:=by omega
   generalize zr l=U at*
   simp (disch:=omega) only[go_sem,K.aQ,↓reduceIte,h2,Nat.reduceAdd,Nat.reduceSub]
   refine iP (l1 _ _ _) ?_
   simp (disch:=omega) only[go_sem,K.aQ,↓reduceIte,Nat.reduceAdd,Nat.reduceSub]
theorem BT(a b:List Int)(ha:a.length≤100000)(hb:b.length≤100000):∃ep,aG 1 N.fY [.t (tL a),.t (tL b)] []=some (.ref 0 ep (Me a b).length,[zP (Me a b) ep]):=by
 have cc:=Mh a b ha hb
 have sl:=iK (a++b)
 have ab:(a++b).length≤200000:=by rw[List.length_append];omega
 have so:=Un 0 (a++b) (by omega)
 obtain⟨ep,co⟩:=IJ (gn (a++b)) (by omega)
 refine⟨ep,av K.pS rfl ?_⟩
 unfold Me
 rw[sl]at co
 generalize hc:a++b=c at*
 generalize gn c=d at*
 generalize zr d=u at*
 clear hc
 simp (disch:=omega) only[go_sem,K.fY,↓reduceIte,cc,so,co,Nat.reduceAdd,Nat.reduceSub]
section
variable (F : Nat) (q : Int → Bool) (t1 : T) (l : List Int) (hq : ∀ x, x ∈ l → aG 0 F [I x, .bp 0 0] [.box [.t t1]] = some (B (q x), [.box [.t t1]]))
include hq
end
section
variable (F : Nat) (q : Int → Bool) (t1 t2 t3 t4 t5 t6 : T) (l : List Int) (hq : ∀ x, x ∈ l → aG 0 F [I x, .bp 0 0, .bp 1 0] [.box [.t t1, .t t2], .box [.t t3, .t t4, .t t5, .t t6]] = some (B (q x), [.box [.t t1, .t t2], .box [.t t3, .t t4, .t t5, .t t6]]))
include hq
theorem Pn(hl:l.length≤1000000)(ep:Nat):
 aG 0 N.aF [.ref 0 ep l.length,.fn F [.bp 1 0,.bp 2 0]] [zP l ep,.box [.t t1,.t t2],.box [.t t3,.t t4,.t t5,.t t6]]=
  some (I (match (List.range l.length).find? (fun j=>q (nth l j))with | some j=>(j:Int) | none=> -1),[zP l ep,.box [.t t1,.t t2],.box [.t t3,.t t4,.t t5,.t t6]]):=by
 refine av K.dQ rfl ?_
 have loop:∀z2 z3:D,exS aG K.fC ⟨[.ref 0 ep l.length,.fn F [.bp 1 0,.bp 2 0],z2,z3,I l.length,I 0],[zP l ep,.box [.t t1,.t t2],.box [.t t3,.t t4,.t t5,.t t6]]⟩=
  some (match (List.range l.length).find? (fun j=>q (nth l j))with
   | some j=>(.ret,⟨[.ref 0 ep l.length,.fn F [.bp 1 0,.bp 2 0],I j,I j,I l.length,I j],[zP l ep,.box [.t t1,.t t2],.box [.t t3,.t t4,.t t5,.t t6]]⟩)
   | none=>(.exit 0,⟨[.ref 0 ep l.length,.fn F [.bp 1 0,.bp 2 0],.und,.und,I l.length,I l.length],[zP l ep,.box [.t t1,.t t2],.box [.t t3,.t t4,.t t5,.t t6]]⟩)):=by
  intro z2 z3
  refine bY (fun j=>⟨[.ref 0 ep l.length,.fn F [.bp 1 0,.bp 2 0],.und,.und,I l.length,I j],[zP l ep,.box [.t t1,.t t2],.box [.t t3,.t t4,.t t5,.t t6]]⟩) l.length (fun j=>q (nth l j)) _ _ rfl ?_ ?_ ?_ (by simp)
  · intro j hj hp'
    have b1:=hq _ (ah hj)
    rw[hp']at b1
    simp (disch:=omega) only[go_sem,K.bq,↓reduceIte,b1,Nat.reduceAdd,Nat.reduceSub]
  · intro j hj hp'
    have b1:=hq _ (ah hj)
    rw[hp']at b1
    refine⟨?_,by simp⟩
    simp (disch:=omega) only[go_sem,K.bq,↓reduceIte,b1,Nat.reduceAdd,Nat.reduceSub]
  · simp (disch:=omega) only[go_sem,K.bq,↓reduceIte,Nat.reduceAdd,Nat.reduceSub]
 cases hf:(List.range l.length).find? (fun j=>q (nth l j))with
 | some j=>
   rw[hf]at loop
   simp (disch:=omega) only[go_sem,K.aF,↓reduceIte,loop,Nat.reduceAdd,Nat.reduceSub]
 | none=>
   rw[hf]at loop
   simp (disch:=omega) only[go_sem,K.aF,↓reduceIte,loop,Nat.reduceAdd,Nat.reduceSub]
theorem IK(hl:l.length≤1000000)(ep:Nat)(i:Nat)(hi:i<l.length)(hp:q (nth l i)=true)(hx:∀k,k<i→q (nth l k)=false)(z2 z5:D):
 exS aG K.iE ⟨[.ref 0 ep l.length,.fn F [.bp 1 0,.bp 2 0],z2,I i,I (i+1),z5],[zP l ep,.box [.t t1,.t t2],.box [.t t3,.t t4,.t t5,.t t6]]⟩=
  some (.exit 0,⟨[.ref 0 ep l.length,.fn F [.bp 1 0,.bp 2 0],.und,I (kN (fun i=> !q (nth l i)) l l.length).length,I l.length,.und],[zP (kA (fun i=> !q (nth l i)) l l.length) ep,.box [.t t1,.t t2],.box [.t t3,.t t4,.t t5,.t t6]]⟩):=by
 obtain⟨e1,e2⟩:=He (fun i=> !q (nth l i)) l hi (fun k hk=>by simp only[hx k hk,Bool.not_false]) (by simp only[hp,Bool.not_true])
 refine b7 (fun k=>⟨[.ref 0 ep l.length,.fn F [.bp 1 0,.bp 2 0],.und,I (kN (fun i=> !q (nth l i)) l (i+1+k)).length,I ((i+1+k:Nat)),.und],[zP (kA (fun i=> !q (nth l i)) l (i+1+k)) ep,.box [.t t1,.t t2],.box [.t t3,.t t4,.t t5,.t t6]]⟩) (l.length-(i+1)) ?_ ?_ ?_ (by simp)
 · simp only[Nat.add_zero,e1,e2]
   rfl
 · intro k hk
   have hj:i+1+k<l.length:=by omega
   rw[show i+1+(k+1)=i+1+k+1 from rfl]
   generalize i+1+k=j at*
   have tq:=hq _ (ah hj)
   have dl:=AZ (fun i=> !q (nth l i)) l j
   have ln:=A0 (fun i=> !q (nth l i)) l (j:=j) (by omega)
   have nx:=Mb (fun i=> !q (nth l i)) l j (i:=j) dl
   have st:=Q6 (fun i=> !q (nth l i)) l hj
   have sm:=Fv (fun i=> !q (nth l i)) l (j:=j)
   have sp:=tM (fun i=> !q (nth l i)) l j
   generalize kA (fun i=> !q (nth l i)) l j=A at*
   generalize kN (fun i=> !q (nth l i)) l j=G at*
   cases hc:q (nth l j)with
   | true=>
     rw[hc]at tq sm
     rw[(sm rfl).1,(sm rfl).2]
     simp (disch:=omega) only[go_sem,K.dk,↓reduceIte,tq,nx,Bool.not_true,Nat.reduceAdd,Nat.reduceSub]
   | false=>
     rw[hc]at tq st sp
     rw[← st rfl,sp,if_pos (show(!false)=true from rfl)]
     simp (disch:=omega) only[go_sem,K.dk,↓reduceIte,tq,nx,Bool.not_false,List.length_append,List.length_singleton,Kh,Nat.reduceAdd,Nat.reduceSub]
 · have:i+1+(l.length-(i+1))=l.length:=by omega
   rw[this]
   have ln:=A0 (fun i=> !q (nth l i)) l (j:=l.length) (Nat.le_refl _)
   generalize kA (fun i=> !q (nth l i)) l l.length=A at*
   generalize kN (fun i=> !q (nth l i)) l l.length=G at*
   simp (disch:=omega) only[go_sem,K.dk,↓reduceIte,Nat.reduceAdd,Nat.reduceSub]
theorem Po(hl:l.length≤1000000)(ep:Nat):
 ∃ep',aG 1 N.aM [.ref 0 ep l.length,.fn F [.bp 1 0,.bp 2 0]] [zP l ep,.box [.t t1,.t t2],.box [.t t3,.t t4,.t t5,.t t6]]=
  some (.ref 0 ep' (l.filter fun x=> !q x).length,[zP (l.filter fun x=> !q x) ep',.box [.t t1,.t t2],.box [.t t3,.t t4,.t t5,.t t6]]):=by
 have ix:=Pn F q t1 t2 t3 t4 t5 t6 l hq hl ep
 cases hf:(List.range l.length).find? (fun j=>q (nth l j))with
 | none=>
   refine⟨ep,av K.dI rfl ?_⟩
   rw[hf]at ix
   have de:l.filter (fun x=> !q x)=l:=by
    rw[List.filter_eq_self]
    intro e he
    obtain⟨j,hj,rfl⟩:=List.mem_iff_getElem.1 he
    have:=List.find?_eq_none.1 hf j (List.mem_range.2 hj)
    have e2:nth l j=l[j]:=b8 (List.getElem?_eq_getElem hj)
    rw[e2]at this
    simpa using this
   rw[de]
   simp (disch:=omega) only[go_sem,K.aM,↓reduceIte,ix,Nat.reduceAdd,Nat.reduceSub]
 | some i=>
   refine⟨ep+1,av K.dI rfl ?_⟩
   rw[hf]at ix
   have hi:=List.mem_range.1 (List.mem_of_find?_eq_some hf)
   have hp:=List.find?_some hf
   have lt:∀j,j<i→q (nth l j)=false:=by
    intro j hj
    have:=(List.find?_range_eq_some.1 hf).2.2 j hj
    simpa using this
   have lp:=IK F q t1 t2 t3 t4 t5 t6 l hq hl ep i hi hp lt
   have dl:=AZ (fun i=> !q (nth l i)) l l.length
   have al2:=A0 (fun i=> !q (nth l i)) l (j:=l.length) (Nat.le_refl _)
   have ke:kN (fun i=> !q (nth l i)) l l.length=l.filter (fun x=> !q x):=Md (fun x=> !q x) l
   have da:(kA (fun i=> !q (nth l i)) l l.length).take (l.filter (fun x=> !q x)).length=l.filter (fun x=> !q x):=by
    unfold kA
    rw[ke,List.take_left]
   rw[ke]at dl lp
   generalize kA (fun i=> !q (nth l i)) l l.length=A at*
   generalize l.filter (fun x=> !q x)=G at*
   have ta:List.take G.length (List.map D.t (List.map (T.int .i64) A))=List.map D.t (List.map (T.int .i64) G):=by rw[← List.map_take,←List.map_take,da]
   have al3:l.length=(List.map D.t (List.map (T.int .i64) A)).length:=by simp[al2]
   have ta2:∀x y:List D,List.take G.length (List.take G.length (List.map D.t (List.map (T.int .i64) A))++x++y)=List.map D.t (List.map (T.int .i64) G):=by
    intro x y
    rw[ta,List.append_assoc,List.take_left' (by simp)]
   have al5:l.length=(List.take G.length (List.map D.t (List.map (T.int .i64) A))++List.replicate (l.length-G.length) (D.t (T.int .i64 0))++List.drop l.length (List.map D.t (List.map (T.int .i64) A))).length:=by
    simp only[List.length_append,List.length_take,List.length_replicate,List.length_drop,List.length_map]
    omega
   simp (disch:=omega) only[go_sem,K.aM,↓reduceIte,ix,lp,ta2,Nat.reduceAdd,Nat.reduceSub]
end
end Go.Ev
namespace Go.Ev
open Go
variable [Lib] [cu] [bP] [gG] [gM] [jO] [fW] [fS] [iR] [gF] [eX] [dT] [jD] [iW] [mZ] [lZ] [jP] [jE] [oe]
theorem Mk{m:aK}(hm:m.ok){e:Esc}(he:e.ok m)(p:Nat)(hp:p<m.places.length):
 aG 0 N.bz [I p,.bp 0 0,.bp 1 0] [.box (aa m),.box (kn e)]=some (B (kG m e p),[.box (aa m),.box (kn e)]):=by
 refine av K.ja rfl ?_
 have en:=IH hm he p hp
 generalize kG m e p=r at*
 obtain⟨places,roads⟩:=m
 obtain⟨safe,bad,shut,limit⟩:=e
 simp only[aa,kn]at*
 simp (disch:=omega) only[go_sem,K.bz,↓reduceIte,en,Nat.reduceAdd,Nat.reduceSub]
theorem Hf{b:Bel}{i t x:Int}:x∈n9 b i t↔∃w∈b.worlds,0≤i∧i<w.whr.length∧x∈Kr (nth w.whr i.toNat) t∧0≤x∧x<64:=by
 unfold n9
 rw[wE]
 constructor
 · rintro ⟨k,rfl,k1,k2⟩
   unfold Xx at k2
   rw[List.any_eq_true]at k2
   obtain⟨q,q1,q2⟩:=k2
   simp only[Bool.and_eq_true,decide_eq_true_eq]at q2
   exact⟨_,ah (List.mem_range.1 q1),q2.1.1,q2.1.2,q2.2,by omega,by omega⟩
 · rintro ⟨w,hw,h1,h2,h3,h4,h5⟩
   refine⟨x.toNat,by omega,by omega,?_⟩
   unfold Xx
   rw[List.any_eq_true]
   obtain⟨q,hq,rfl⟩:=List.mem_iff_getElem.1 hw
   have e2:nth b.worlds q=b.worlds[q]:=b8 (List.getElem?_eq_getElem hq)
   refine⟨q,List.mem_range.2 hq,?_⟩
   rw[e2]
   simp only[Bool.and_eq_true,decide_eq_true_eq]
   refine⟨⟨h1,h2⟩,?_⟩
   rw[show((x.toNat:Nat):Int)=x by omega]
   exact h3
theorem Vc{m:aK}{b:Bel}(hb:p5 m b=true){i t x:Int}(h:x∈n9 b i t):0≤x∧x<m.places.length:=by
 obtain⟨w,hw,h1,h2,h3,h4,h5⟩:=Hf.1 h
 have v:=(xz (ws:=b.worlds) hb).wv w hw
 have v:=(dH (v.wv _ (ah (j:=i.toNat) (by omega)))).1
 rw[DD,v]at h3
 exact⟨h3.1,h3.2.1⟩
def uN(b:Bel)(t:Int):Nat→List Int
 | 0=>[]
 | j+1=>Me (uN b t j) (n9 b j t)
theorem Ml(b:Bel)(t x:Int):∀j,x∈uN b t j↔∃i:Nat,i<j∧x∈n9 b i t
 | 0=>by simp[uN]
 | j+1=>by
   rw[uN,Pj,Ml b t x j]
   constructor
   · rintro (⟨i,h1,h2⟩ | h)
     · exact⟨i,by omega,h2⟩
     · exact⟨j,by omega,h⟩
   · rintro ⟨i,h1,h2⟩
     by_cases c:i=j
     · subst c;exact .inr h2
     · exact .inl ⟨i,by omega,h2⟩
theorem A1(b:Bel)(t:Int):∀j,(uN b t j).length≤64*j
 | 0=>by simp[uN]
 | j+1=>by
   have:=A1 b t j
   have:=Pk (uN b t j) (n9 b j t)
   have:=uZ b j t
   simp only[uN]
   omega
abbrev Vd(l:List Int)(ep:Nat):Obj:= .arr 1 true ep ((l.map (T.int .i64)).map .t)
section
variable (m : aK) (e : Esc) (b : Bel) (hs : b.sz) (t : Int) (n : Nat) (hn : n ≤ 1000)
include hs hn
theorem Ve(hj:0<n):∃e1,fh false [0,1,2,7,9] 3 (exS aG K.bF ⟨[.und,.und,.und,I t,.bp 0 0,.bp 1 0,.bp 2 0,.und,.nil,.und,I n,I 0],[.box (aa m),.box (kn e),.box [.t (.sl (b.worlds.map World.e))]]⟩)=some ⟨[.und,.und,.und,I t,.bp 0 0,.bp 1 0,.bp 2 0,.und,.ref 3 e1 (uN b t 1).length,.und,I n,I 1],[.box (aa m),.box (kn e),.box [.t (.sl (b.worlds.map World.e))],zP (uN b t 1) e1]⟩:=by
 have ul:=A1 b t 0
 obtain⟨e1,un⟩:=BT (uN b t 0) (n9 b 0 t) (by omega) (by have:=uZ b 0 t;omega)
 have po:=tD b hs 0 t
 refine⟨e1,?_⟩
 have u1:Me (uN b t 0) (n9 b 0 t)=uN b t 1:=rfl
 rw[u1]at un
 have u0:uN b t 0=[]:=rfl
 rw[u0]at un
 generalize uN b t 1=U1 at*
 generalize n9 b 0 t=PP at*
 obtain⟨places,roads⟩:=m
 obtain⟨safe,bad,shut,limit⟩:=e
 obtain⟨ws⟩:=b
 simp only[aa,kn,tL,List.map_nil]at*
 simp (disch:=omega) only[go_sem,K.bF,↓reduceIte,po,un,Nat.reduceAdd,Nat.reduceSub]
theorem abd(hj:1<n)(e1:Nat):∃e2,fh false [0,1,2,7,9] 4 (exS aG K.bF ⟨[.und,.und,.und,I t,.bp 0 0,.bp 1 0,.bp 2 0,.und,.ref 3 e1 (uN b t 1).length,.und,I n,I 1],[.box (aa m),.box (kn e),.box [.t (.sl (b.worlds.map World.e))],zP (uN b t 1) e1]⟩)=some ⟨[.und,.und,.und,I t,.bp 0 0,.bp 1 0,.bp 2 0,.und,.ref 4 e2 (uN b t 2).length,.und,I n,I 2],[.box (aa m),.box (kn e),.box [.t (.sl (b.worlds.map World.e))],Vd (uN b t 1) e1,zP (uN b t 2) e2]⟩:=by
 have ul:=A1 b t 1
 obtain⟨e2,un⟩:=BT (uN b t 1) (n9 b 1 t) (by omega) (by have:=uZ b 1 t;omega)
 have po:=tD b hs 1 t
 refine⟨e2,?_⟩
 have u1:Me (uN b t 1) (n9 b 1 t)=uN b t 2:=rfl
 rw[u1]at un
 generalize uN b t 2=U2 at*
 generalize n9 b 1 t=PP at*
 generalize uN b t 1=U1 at*
 obtain⟨places,roads⟩:=m
 obtain⟨safe,bad,shut,limit⟩:=e
 obtain⟨ws⟩:=b
 simp only[aa,kn,tL]at*
 simp (disch:=omega) only[go_sem,K.bF,↓reduceIte,po,un,Nat.reduceAdd,Nat.reduceSub]
 rfl
theorem agn(hj:2<n)(e1 e2:Nat):∃e3,fh false [0,1,2,7,9] 5 (exS aG K.bF ⟨[.und,.und,.und,I t,.bp 0 0,.bp 1 0,.bp 2 0,.und,.ref 4 e2 (uN b t 2).length,.und,I n,I 2],[.box (aa m),.box (kn e),.box [.t (.sl (b.worlds.map World.e))],Vd (uN b t 1) e1,zP (uN b t 2) e2]⟩)=some ⟨[.und,.und,.und,I t,.bp 0 0,.bp 1 0,.bp 2 0,.und,.ref 5 e3 (uN b t 3).length,.und,I n,I 3],[.box (aa m),.box (kn e),.box [.t (.sl (b.worlds.map World.e))],Vd (uN b t 1) e1,Vd (uN b t 2) e2,zP (uN b t 3) e3]⟩:=by
 have ul:=A1 b t 2
 obtain⟨e3,un⟩:=BT (uN b t 2) (n9 b 2 t) (by omega) (by have:=uZ b 2 t;omega)
 have po:=tD b hs 2 t
 refine⟨e3,?_⟩
 have u1:Me (uN b t 2) (n9 b 2 t)=uN b t 3:=rfl
 rw[u1]at un
 generalize uN b t 3=U3 at*
 generalize n9 b 2 t=PP at*
 generalize uN b t 2=U2 at*
 generalize uN b t 1=U1 at*
 obtain⟨places,roads⟩:=m
 obtain⟨safe,bad,shut,limit⟩:=e
 obtain⟨ws⟩:=b
 simp only[aa,kn,tL]at*
 simp (disch:=omega) only[go_sem,K.bF,↓reduceIte,po,un,Nat.reduceAdd,Nat.reduceSub]
 rfl
end
theorem ago(m:aK)(e:Esc)(b:Bel)(hs:b.sz)(t:Int)(z0 z1 z2 z7 z9:D):∃e1,exS aG K.gS ⟨[z0,z1,z2,I t,.bp 0 0,.bp 1 0,.bp 2 0,z7,.nil,z9,I 1,I 0],[.box (aa m),.box (kn e),.box [.t (.sl (b.worlds.map World.e))]]⟩=some (.exit 0,⟨[.und,.und,.und,I t,.bp 0 0,.bp 1 0,.bp 2 0,.und,.ref 3 e1 (uN b t 1).length,.und,I 1,I 1],[.box (aa m),.box (kn e),.box [.t (.sl (b.worlds.map World.e))],zP (uN b t 1) e1]⟩):=by
 obtain⟨e1,r0⟩:=Ve m e b hs t 1 (by omega) (by omega)
 refine⟨e1,sX (fo r0 (eG ?_ (by simp)))⟩
 clear r0
 generalize uN b t 1=U1 at*
 obtain⟨places,roads⟩:=m
 obtain⟨safe,bad,shut,limit⟩:=e
 obtain⟨ws⟩:=b
 simp only[aa,kn,tL]at*
 simp (disch:=omega) only[go_sem,K.bF,↓reduceIte,Nat.reduceAdd,Nat.reduceSub]
theorem agp(m:aK)(e:Esc)(b:Bel)(hs:b.sz)(t:Int)(z0 z1 z2 z7 z9:D):∃e1 e2,exS aG K.gS ⟨[z0,z1,z2,I t,.bp 0 0,.bp 1 0,.bp 2 0,z7,.nil,z9,I 2,I 0],[.box (aa m),.box (kn e),.box [.t (.sl (b.worlds.map World.e))]]⟩=some (.exit 0,⟨[.und,.und,.und,I t,.bp 0 0,.bp 1 0,.bp 2 0,.und,.ref 4 e2 (uN b t 2).length,.und,I 2,I 2],[.box (aa m),.box (kn e),.box [.t (.sl (b.worlds.map World.e))],Vd (uN b t 1) e1,zP (uN b t 2) e2]⟩):=by
 obtain⟨e1,r0⟩:=Ve m e b hs t 2 (by omega) (by omega)
 obtain⟨e2,r1⟩:=abd m e b hs t 2 (by omega) (by omega) e1
 refine⟨e1,e2,sX (fo r0 (fo r1 (eG ?_ (by simp))))⟩
 clear r0 r1
 generalize uN b t 1=U1 at*
 generalize uN b t 2=U2 at*
 obtain⟨places,roads⟩:=m
 obtain⟨safe,bad,shut,limit⟩:=e
 obtain⟨ws⟩:=b
 simp only[aa,kn,tL]at*
 simp (disch:=omega) only[go_sem,K.bF,↓reduceIte,Nat.reduceAdd,Nat.reduceSub]
theorem agq(m:aK)(e:Esc)(b:Bel)(hs:b.sz)(t:Int)(z0 z1 z2 z7 z9:D):∃e1 e2 e3,exS aG K.gS ⟨[z0,z1,z2,I t,.bp 0 0,.bp 1 0,.bp 2 0,z7,.nil,z9,I 3,I 0],[.box (aa m),.box (kn e),.box [.t (.sl (b.worlds.map World.e))]]⟩=some (.exit 0,⟨[.und,.und,.und,I t,.bp 0 0,.bp 1 0,.bp 2 0,.und,.ref 5 e3 (uN b t 3).length,.und,I 3,I 3],[.box (aa m),.box (kn e),.box [.t (.sl (b.worlds.map World.e))],Vd (uN b t 1) e1,Vd (uN b t 2) e2,zP (uN b t 3) e3]⟩):=by
 obtain⟨e1,r0⟩:=Ve m e b hs t 3 (by omega) (by omega)
 obtain⟨e2,r1⟩:=abd m e b hs t 3 (by omega) (by omega) e1
 obtain⟨e3,r2⟩:=agn m e b hs t 3 (by omega) (by omega) e1 e2
 refine⟨e1,e2,e3,sX (fo r0 (fo r1 (fo r2 (eG ?_ (by simp)))))⟩
 clear r0 r1 r2
 generalize uN b t 1=U1 at*
 generalize uN b t 2=U2 at*
 generalize uN b t 3=U3 at*
 obtain⟨places,roads⟩:=m
 obtain⟨safe,bad,shut,limit⟩:=e
 obtain⟨ws⟩:=b
 simp only[aa,kn,tL]at*
 simp (disch:=omega) only[go_sem,K.bF,↓reduceIte,Nat.reduceAdd,Nat.reduceSub]
def tN(b:Bel):Nat:=(nth b.worlds 0).whr.length
def lL(m:aK)(e:Esc)(b:Bel)(t:Int):List Int:=(uN b t (tN b)).filter fun x=> !kG m e x.toNat
theorem Pp{m:aK}(hm:m.ok){e:Esc}(he:e.ok m){b:Bel}(hb:p5 m b=true)(hs:b.sz)(h3:tN b≤3)(t:Int):
 aG 0 N.bc [.t m.e,.t e.e,.t b.e,I t] []=some (.t (tL (lL m e b t)),[]):=by
 refine av K.kg rfl ?_
 have w1:=(gI hb).1
 have hq:∀x,x∈uN b t (tN b)→aG 0 N.bz [I x,.bp 0 0,.bp 1 0] [.box (aa m),.box (kn e)]=some (B (kG m e x.toNat),[.box (aa m),.box (kn e)]):=by
  intro x hx
  obtain⟨i,_,hi⟩:=(Ml b t x _).1 hx
  have:=Vc hb hi
  obtain⟨p,rfl⟩:=Int.eq_ofNat_of_zero_le this.1
  exact Mk hm he p (by omega)
 have dl:=fun ep=>Po N.bz (fun x=>kG m e x.toNat) (.sl (m.places.map Place.e)) (.sl (m.roads.map Road.e)) (tL e.safe) (tL e.bad) (tL e.shut) (tI e.limit) (uN b t (tN b)) hq (by have:=A1 b t (tN b);omega) ep
 have p1:1≤tN b:=by
  have v:=xz (ws:=b.worlds) hb
  have:=(v.wv _ (ah (l:=b.worlds) (j:=0) (by omega))).wl
  have:=v.f1
  unfold tN
  omega
 have ex:(b.worlds.map World.e)[0]?=some (nth b.worlds 0).e:=eU _ (by omega)
 have pe:(nth b.worlds 0).whr.length=tN b:=rfl
 have l1:=ago m e b hs t
 have l2:=agp m e b hs t
 have l3:=agq m e b hs t
 unfold lL
 generalize hn:tN b=n at*
 generalize hfl:List.filter (fun x=> !kG m e x.toNat) (uN b t n)=R at*
 have hc:n=1∨n=2∨n=3:=by omega
 clear hq hm he hb h3 p1
 generalize hw:nth b.worlds 0=w at*
 obtain⟨tg,wh⟩:=w
 simp only at pe
 rcases hc with rfl | hc
 · clear l2 l3
   have l1:=l1 (.t m.e) (.t e.e) (.t b.e) .nil .und
   obtain⟨e1,lp⟩:=l1
   obtain⟨ep,dl⟩:=dl e1
   generalize uN b t 1=U1 at*
   obtain⟨places,roads⟩:=m
   obtain⟨safe,bad,shut,limit⟩:=e
   obtain⟨ws⟩:=b
   simp only[aa,kn,tL]at*
   simp (disch:=omega) only[go_sem,K.bc,↓reduceIte,ex,pe,Nat.reduceAdd,Nat.reduceSub]
   refine iP lp ?_
   simp (disch:=omega) only[go_sem,K.bc,↓reduceIte,dl,Nat.reduceAdd,Nat.reduceSub]
 rcases hc with rfl | hc
 · clear l1 l3
   have l2:=l2 (.t m.e) (.t e.e) (.t b.e) .nil .und
   obtain⟨e1,e2,lp⟩:=l2
   obtain⟨ep,dl⟩:=dl e2
   generalize uN b t 2=U2 at*
   generalize uN b t 1=U1 at*
   obtain⟨places,roads⟩:=m
   obtain⟨safe,bad,shut,limit⟩:=e
   obtain⟨ws⟩:=b
   simp only[aa,kn,tL]at*
   simp (disch:=omega) only[go_sem,K.bc,↓reduceIte,ex,pe,Nat.reduceAdd,Nat.reduceSub]
   refine iP lp ?_
   simp (disch:=omega) only[go_sem,K.bc,↓reduceIte,dl,Nat.reduceAdd,Nat.reduceSub]
 subst hc
 clear l1 l2
 have l3:=l3 (.t m.e) (.t e.e) (.t b.e) .nil .und
 obtain⟨e1,e2,e3,lp⟩:=l3
 obtain⟨ep,dl⟩:=dl e3
 generalize uN b t 3=U3 at*
 generalize uN b t 2=U2 at*
 generalize uN b t 1=U1 at*
 obtain⟨places,roads⟩:=m
 obtain⟨safe,bad,shut,limit⟩:=e
 obtain⟨ws⟩:=b
 simp only[aa,kn,tL]at*
 simp (disch:=omega) only[go_sem,K.bc,↓reduceIte,ex,pe,Nat.reduceAdd,Nat.reduceSub]
 refine iP lp ?_
 simp (disch:=omega) only[go_sem,K.bc,↓reduceIte,dl,Nat.reduceAdd,Nat.reduceSub]
end Go.Ev
namespace Go.Ev
open Go
variable [Lib] [cu] [bP] [gG] [gM] [jO] [fW] [fS] [iR] [gF] [eX] [dT] [jD] [iW] [mZ] [lZ] [jP] [jE] [oe]
theorem Mm{d:aA}(hd:d.dB)(k n:Int)(h0:0≤k)(hk:k≤1000)(h1:1≤n)(hn:n≤1000):
 ∃(b:Bool) (d2:aA) (x:Int) (d3:aA),aG 0 N.bQ [.bp 0 0,I k] [d.obj]=some (B b,[d2.obj])∧(b=true∧aG 0 N.ax [.bp 0 0,I n] [d2.obj]=some (I x,[d3.obj])∨b=false∧d2=d3)∧d3.dB∧0≤x∧x<n:=by
 obtain⟨b,d2,c2,l2⟩:=age hd k h0 (by omega)
 obtain⟨x,d3,c3,l3,x0,x1⟩:=Dk l2 n h1 (by omega)
 cases b with
 | true=>exact⟨true,d2,x,d3,c2,.inl ⟨rfl,c3⟩,l3,x0,x1⟩
 | false=>exact⟨false,d2,x,d2,c2,.inr ⟨rfl,rfl⟩,l2,x0,x1⟩
theorem zt{b:Bool}{x n:Int}(h0:0≤x)(h1:x<n):zB (if b=true then [x]else []) n=true:=by
 cases b with
 | true=>exact aaV h0 h1
 | false=>rfl
theorem Pq{d:aA}(hd:d.dB){m:aK}(hm:m.ok)(h1:1≤m.places.length)(h2:1≤m.roads.length):
 ∃(e:Esc) (d':aA),aG 0 N.cN [.bp 0 0,.t m.e] [d.obj]=some (.t e.e,[d'.obj])∧d'.dB∧e.ok m∧e.limit≤1000∧e.safe.length≤1∧e.bad.length≤1∧e.shut.length≤1:=by
 have np:=hm.np
 have nr:=hm.nr
 obtain⟨lim,d1,c1,l1,m1⟩:=aii hd [600,100,60,1000,0] (by simp) (by simp)
 have lm:0≤lim∧lim≤1000:=by
  simp only[List.mem_cons,List.not_mem_nil,or_false]at m1
  omega
 have c1:aG 0 N.cq [.bp 0 0,.t (.sl [tI 600,tI 100,tI 60,tI 1000,tI 0])] [d.obj]=some (I lim,[d1.obj]):=c1
 obtain⟨b1,d2,x1,d3,a1,a2,l3,x10,x11⟩:=Mm l1 3 m.places.length (by omega) (by omega) (by omega) (by omega)
 obtain⟨b2,d4,x2,d5,a4,a5,l5,x20,x21⟩:=Mm l3 4 m.places.length (by omega) (by omega) (by omega) (by omega)
 obtain⟨b3,d6,x3,d7,a7,a8,l7,x30,x31⟩:=Mm l5 4 m.roads.length (by omega) (by omega) (by omega) (by omega)
 refine⟨⟨if b1=true then [x1]else [],if b2=true then [x2]else [],if b3=true then [x3]else [],lim⟩,d7,?_,l7,⟨zt x10 x11,zt x20 x21,zt x30 x31,lm.1,by simp only;omega⟩,lm.2,?_,?_,?_⟩
 · refine av K.kd rfl ?_
   obtain⟨places,roads⟩:=m
   simp only[aa]at*
   have r0:(0:Int)<roads.length:=by omega
   rcases a2 with⟨rfl,a2⟩ | ⟨rfl,a2⟩<;>rcases a5 with⟨rfl,a5⟩ | ⟨rfl,a5⟩<;>rcases a8 with⟨rfl,a8⟩ | ⟨rfl,a8⟩
   all_goals
    simp (disch:=omega) only[go_sem,K.cN,↓reduceIte,c1,a1,a2,a4,a5,a7,a8,r0,Nat.reduceAdd,Nat.reduceSub]
    rfl
 · cases b1<;>simp
 · cases b2<;>simp
 · cases b3<;>simp
end Go.Ev
namespace Go.Ev
open Go
variable [Lib] [cu] [bP] [gG] [gM] [jO] [fW] [fS] [iR] [gF] [eX] [dT] [jD] [iW] [mZ] [lZ]
end Go.Ev
namespace Go.Ev
open Go
variable [Lib] [cu] [bP] [gG] [gM] [jO] [fW] [fS] [iR] [gF] [eX] [dT]
def AW(P:Wh→Prop)(ws:List World):Prop:=∀x∈ws,∀w∈x.whr,P w
structure Kept(m:aK)(T:Int)(P:Wh→Prop):Prop where
 see:∀w l a b,P w→b≤T→P (zI m w l a b).1
 abs:∀w l a b bl,P w→b≤T→P (AH m w l a b bl).1
 raise:∀w t,P w→t≤T→P (lD w t).1
 join:∀a b,P a→P b→a.frm.length=b.frm.length→P (lX a b).1
theorem AW.set{P:Wh→Prop}{x:World}(h:∀w∈x.whr,P w)(tag:Int){w:Wh}(hw:(bU x.tags tag).toNat<x.whr.length→P w):∀y∈(Fe tag x w).whr,P y:=by
 intro y hy
 simp only[Fe]at hy
 by_cases c:(bU x.tags tag).toNat<x.whr.length
 · rcases List.mem_or_eq_of_mem_set hy with a | rfl
   · exact h y a
   · exact hw c
 · rw[List.set_eq_of_length_le (by omega)]at hy;exact h y hy
theorem BU{m:aK}{T:Int}{P:Wh→Prop}(k:Kept m T P){ws:List World}(h:AW P ws)(tag:Int)(l:List Int)(a b:Int)(hb:b≤T):∀j,j≤ws.length→AW P (mQ m tag l a b ws j)
 | 0,_,x,hx=>by simp[mQ]at hx
 | j+1,hj,x,hx=>by
   simp only[mQ,Dn]at hx
   have hn:=h _ (ah (l:=ws) (j:=j) (by omega))
   split at hx
   · exact BU k h tag l a b hb j (by omega) x hx
   · rcases List.mem_append.1 hx with hx | hx
     · exact BU k h tag l a b hb j (by omega) x hx
     · rw[List.mem_singleton.1 hx]
       split
       · exact AW.set hn tag fun c=>k.see _ _ _ _ (hn _ (ah c)) hb
       · exact hn
theorem Hg{m:aK}{T:Int}{P:Wh→Prop}(k:Kept m T P){ws:List World}(h:AW P ws)(tag:Int)(l:List Int)(a b bl:Int)(hb:b≤T):∀j,j≤ws.length→AW P (oH m tag l a b bl ws j)
 | 0,_,x,hx=>by simp[oH]at hx
 | j+1,hj,x,hx=>by
   simp only[oH,Ff]at hx
   have hn:=h _ (ah (l:=ws) (j:=j) (by omega))
   rcases List.mem_append.1 hx with hx | hx
   · exact Hg k h tag l a b bl hb j (by omega) x hx
   · rw[List.mem_singleton.1 hx]
     split
     · exact AW.set hn tag fun c=>k.abs _ _ _ _ _ (hn _ (ah c)) hb
     · exact hn
theorem Hh{m:aK}{T:Int}{P:Wh→Prop}(k:Kept m T P){n:Nat}{a b:List Wh}(ha:∀w∈a,P w∧w.frm.length=n)(hb:∀w∈b,P w∧w.frm.length=n):∀p,p≤a.length→p≤b.length→∀w∈lx a b p,P w
 | 0,_,_,w,hw=>(ha w hw).1
 | p+1,h1,h2,w,hw=>by
   simp only[lx]at hw
   rcases List.mem_or_eq_of_mem_set hw with hw | rfl
   · exact Hh k ha hb p (by omega) (by omega) w hw
   · have x:=ha _ (ah (l:=a) (j:=p) (by omega))
     have y:=hb _ (ah (l:=b) (j:=p) (by omega))
     exact k.join _ _ x.1 y.1 (by rw[x.2,y.2])
theorem Pr{m:aK}{T:Int}{P:Wh→Prop}(k:Kept m T P){first:List Int}{out:List World}{x:World}(ho:AW P out)(hx:∀w∈x.whr,P w)(wo:∀y∈out,WV m first y)(wx:WV m first x):AW P (pJ out x):=by
 intro y hy
 unfold pJ at hy
 split at hy
 · rename_i h
   rcases List.mem_or_eq_of_mem_set hy with hy | rfl
   · exact ho y hy
   · have wk:=wo _ (ah h.1)
     exact Hh k (n:=m.places.length) (fun w hw=>⟨ho _ (ah h.1) w hw,(dH (wk.wv w hw)).1⟩) (fun w hw=>⟨hx w hw,(dH (wx.wv w hw)).1⟩) _ (Nat.min_le_left _ _) (Nat.min_le_right _ _)
 · rcases List.mem_append.1 hy with hy | hy
   · rcases List.mem_append.1 hy with hy | hy
     · exact ho y (List.mem_of_mem_take hy)
     · rw[List.mem_singleton.1 hy];exact hx
   · exact ho y (List.mem_of_mem_drop hy)
theorem Hi{m:aK}(hm:m.ok){T:Int}{P:Wh→Prop}(k:Kept m T P){first:List Int}(pr:fJ first=true)(f1:1≤first.length)(f2:first.length≤12){l:List World}(hl:AW P l)(wl:∀x∈l,WV m first x):∀j,j≤l.length→AW P (qL l j)
 | 0,_,y,hy=>by simp[qL]at hy
 | j+1,h,y,hy=>Pr k (Hi hm k pr f1 f2 hl wl j (by omega)) (hl _ (ah (by omega))) (BN hm pr f1 f2 wl j (by omega)).wv (wl _ (ah (by omega))) y hy
theorem Ps{m:aK}{T:Int}{P:Wh→Prop}(k:Kept m T P){i j:Nat}{t:Int}(ht:t≤T){x:World}(h:∀w∈x.whr,P w):∀w∈(tB i j t x).whr,P w:=by
 intro w hw
 simp only[tB]at hw
 have one:∀ {l:List Wh},(∀w∈l,P w)→∀i,∀w∈l.set i (lD (nth x.whr i) t).1,i<x.whr.length∨l.length=x.whr.length→P w:=by
  intro l hl i w hw hlen
  by_cases c:i<x.whr.length
  · rcases List.mem_or_eq_of_mem_set hw with a | rfl
    · exact hl w a
    · exact k.raise _ _ (h _ (ah c)) ht
  · rcases hlen with a | a
    · exact(c a).elim
    · rw[List.set_eq_of_length_le (by omega)]at hw;exact hl w hw
 by_cases c:j<x.whr.length
 · rcases List.mem_or_eq_of_mem_set hw with a | rfl
   · exact one h i w a (.inr rfl)
   · exact k.raise _ _ (h _ (ah c)) ht
 · rw[List.set_eq_of_length_le (by rw[List.length_set];omega)]at hw
   exact one h i w hw (.inr rfl)
theorem zu{m:aK}{T:Int}{P:Wh→Prop}(k:Kept m T P){ws:List World}(h:AW P ws){i j:Nat}{t:Int}(ht:t≤T):∀q,q≤ws.length→AW P (iC i j t ws q)
 | 0,_=>h
 | q+1,hq=>fun x hx=>by
   simp only[iC,ze]at hx
   split at hx
   · rcases List.mem_append.1 hx with hx | hx
     · exact zu k h ht q (by omega) x hx
     · rw[List.mem_singleton.1 hx];exact Ps k ht (h _ (ah (by omega)))
   · exact zu k h ht q (by omega) x hx
theorem IL{m:aK}(hm:m.ok){T:Int}{P:Wh→Prop}(k:Kept m T P){n:Int}{s:BSt}(hb:p5 m s.b=true)(h:AW P s.b.worlds)(ht:s.t+118≤T):AW P (aA.kc m n s).b.worlds:=by
 have a0:=s.d.dO 60
 have a9:=s.d.dP (n:=60) (by omega)
 unfold aA.kc
 simp only
 generalize s.d.next 60=a at*
 obtain⟨a1,d1⟩:=a
 simp only at a0 a9 ⊢
 obtain⟨⟨ws⟩,t,d⟩:=s
 simp only at*
 have bv:=xz hb
 obtain⟨w1,w2,f1,f2, -⟩:=gI hb
 split
 · simp only
   split
   · generalize ((d1.next 3).2.next n).1=i
     generalize (((d1.next 3).2.next n).2.next n).1=j
     unfold mR
     split
     · exact h
     · split
       · exact h
       · rename_i hij
         simp only at hij
         split
         · exact h
         · split
           · exact h
           · exact Hi hm k bv.pr bv.f1 bv.f2 (zu k h (by omega) _ (Nat.le_refl _)) (vi hm bv.wv (by omega) (by omega) _ _ (Nat.le_refl _)) _ (Nat.le_refl _)
   · exact h
 · split
   · simp only
     split
     · have e9:=((((d1.next 3).2.next n).2.lV m.places.length).2).dP (n:=9) (by omega)
       generalize (((d1.next 3).2.next n).2.lV m.places.length)=l at*
       generalize (l.2.next 9).1=e at*
       unfold qJ
       split
       · exact h
       · split
         · exact h
         · split
           · exact h
           · exact BU k h _ _ _ _ (by omega) _ (Nat.le_refl _)
     · exact h
   · simp only
     split
     · unfold qK
       split
       · exact h
       · split
         · exact h
         · exact Hg k h _ _ _ _ _ (by omega) _ (Nat.le_refl _)
     · exact h
theorem Mn{m:aK}(hm:m.ok){T:Int}{P:Wh→Prop}(k:Kept m T P){n:Int}{s:BSt}(hb:p5 m s.b=true)(h:AW P s.b.worlds):∀(q:Nat),s.t+60*q+118≤T+60→AW P (aA.wD m n s q).b.worlds∧(aA.wD m n s q).t≤s.t+60*q
 | 0,_=>⟨h,by simp[aA.wD]⟩
 | q+1,hq=>by
   obtain⟨h1,h2⟩:=Mn hm k (n:=n) hb h q (by omega)
   have ht:=(DA (m:=m) (n:=n) (s:=aA.wD m n s q)).2
   exact⟨IL hm k (wG hm hb q) h1 (by omega),by simp only[aA.wD];omega⟩
theorem Mo{m:aK}(hm:m.ok)(h1:1≤m.places.length)(d:aA){P:Wh→Prop}(k:Kept m 500 P)(hs:∀p t,0≤p→p<(m.places.length:Int)→0≤t→t<100→P (fP m p t).1):AW P (d.qM m).1.worlds:=by
 have v0:=AU hm h1 d
 have k9:=((d.lF m).2.next 100).2.dP (n:=5) (by omega)
 have k0:=((d.lF m).2.next 100).2.dO 5
 have kk:d.Lj m≤4:=by unfold aA.Lj;omega
 have t0:=(d.lF m).2.dO 100
 have t9:=(d.lF m).2.dP (n:=100) (by omega)
 have tl:=ka d.oa
 have sl:(d.lF m).1.length=d.oa:=aA.jI _ _ _
 have a0:AW P (d.Ji m).b.worlds:=by
  unfold aA.Ji
  rw[BJ hm h1]
  intro x hx w hw
  rw[List.mem_singleton.1 hx]at hw
  simp only[gJ,List.mem_map,List.mem_range]at hw
  obtain⟨i,hi,rfl⟩:=hw
  have:=qN (d.next 3).2 (n:=m.places.length) (by omega) d.oa _ (ah (l:=(d.lF m).1) (j:=i) (by omega))
  exact hs _ _ this.1 this.2 t0 t9
 exact(Mn hm k (n:=d.oa) v0 a0 (d.Lj m) (by show(100:Int)+_+_≤_;omega)).1
theorem Mp(m:aK):Kept m 500 fun w=>w.time≤500 where
 see w l a b h hb:=by
  unfold zI
  split
  · exact h
  · split
    · exact h
    · split
      · exact hb
      · exact h
 abs w l a b bl h hb:=by
  unfold AH
  split
  · exact h
  · split
    · exact h
    · split
      · exact h
      · split
        · exact h
        · exact hb
 raise w t h ht:=by unfold lD;split;exact h;exact ht
 join a b ha hb e:=by
  unfold lX
  rw[if_pos e]
  simp only;omega
theorem Fy{m:aK}(hm:m.ok)(h1:1≤m.places.length)(d:aA):AW (fun w=>w.time≤500) (d.qM m).1.worlds:=
 Mo hm h1 d (Mp m) fun p t p0 p1 t0 t1=>by
  rw[(y5 hm p0 p1 (t:=t) ⟨t0,by omega⟩).1]
  simp only;omega
def DL:List Int→List (List Int)
 | []=>[[]]
 | a::l=>(DL l).flatMap fun p=>(List.range (p.length+1)).map fun i=>p.take i++a::p.drop i
theorem DM:∀ {l t:List Int},t.Perm l→t∈DL l
 | [],t,h=>by rw[List.perm_nil.1 h];simp[DL]
 | a::l,t,h=>by
   obtain⟨s1,s2,rfl⟩:=List.append_of_mem (h.mem_iff.2 List.mem_cons_self)
   have p:(s1++s2).Perm l:=(List.perm_cons a).1 ((List.perm_middle.symm).trans h)
   simp only[DL,List.mem_flatMap,List.mem_map,List.mem_range]
   exact⟨_,DM p,s1.length,by rw[List.length_append];omega,by simp⟩
theorem IM{m:aK}{first:List Int}{ws:List World}(h:BV m first ws)(f:first.length≤3):ws.length≤6:=by
 have nd:(ws.map World.tags).Nodup:=by
  rw[List.Nodup,List.pairwise_map]
  exact h.up.imp fun h e=>aaU h e
 have sub:(ws.map World.tags) ⊆ DL first:=by
  intro t ht
  obtain⟨x,hx,rfl⟩:=List.mem_map.1 ht
  exact DM (h.wv x hx).pm
 have:=nd.length_le_of_subset sub
 rw[List.length_map]at this
 have f1:=h.f1
 match first,f,f1 with
 | [a],_,_=>exact Nat.le_trans this (by decide:1≤6)
 | [a,b],_,_=>exact Nat.le_trans this (by show 2≤6;decide)
 | [a,b,c],_,_=>exact Nat.le_trans this (by show 6≤6;decide)
theorem Pt{d:aA}(hd:d.dB){m:aK}(hm:m.ok)(h1:1≤m.places.length):
 ∃(b:Bel) (e:aA),aG 0 N.b5 [.bp 0 0,.t m.e] [d.obj]=some (.t b.e,[e.obj])∧e.dB∧p5 m b=true∧b.sz∧b.worlds.length≤6∧(nth b.worlds 0).tags.length≤3∧AW (fun w=>w.time≤500) b.worlds:=by
 have g:=Lo hm h1 hd
 have v:=DF hm h1 d
 have bp:=zh d
 have n:(nth (d.qM m).1.worlds 0).tags.length≤3:=by
  have:=(g.1.ws _ (ah (l:=(d.qM m).1.worlds) (j:=0) (by have:=g.1.w1;omega))).tg
  omega
 refine⟨_,_,Lr hm h1 d hd,g.2,v,g.1.sz hm,?_,n,Fy hm h1 d⟩
 have bv:=xz (m:=m) (ws:=(d.qM m).1.worlds) v
 exact IM bv n
end Go.Ev
namespace Go.Ev
open Go
variable [Lib] [cu] [bP] [gG]
def Jo(l:List Wh)(t:Int):Nat→Int
 | 0=>t
 | j+1=>max (Jo l t j) (nth l j).time
def zQ(ws:List World):Nat→Int
 | 0=>0
 | i+1=>Jo (nth ws i).whr (zQ ws i) (nth ws i).whr.length
def IN(b:Bel):Int:=zQ b.worlds b.worlds.length
theorem Vf(b:Bel)(hb:b.sz):aG 0 N.jk [.t b.e] []=some (I (IN b),[]):=by
 refine av K.tx rfl ?_
 unfold IN
 obtain⟨ws⟩:=b
 obtain⟨s1,s2⟩:=hb
 simp only at s1 s2 ⊢
 have inner:∀i,i<ws.length→∀(t:Int) (a b:D),exS aG K.xp ⟨[a,.bp 0 0,b,I t,I i,I 0],[.box [.t (.sl (ws.map World.e))]]⟩=
  some (.exit 2,⟨[.und,.bp 0 0,.und,I (Jo (nth ws i).whr t (nth ws i).whr.length),I i,I (nth ws i).whr.length],[.box [.t (.sl (ws.map World.e))]]⟩):=by
  intro i hi t a b
  have g1:(ws.map World.e)[i]?=some (nth ws i).e:=eU _ hi
  have sz:=(s2 _ (ah hi)).2.1
  refine b7 (fun j=>⟨[.und,.bp 0 0,.und,I (Jo (nth ws i).whr t j),I i,I j],[.box [.t (.sl (ws.map World.e))]]⟩) (nth ws i).whr.length rfl ?_ ?_ (by simp)
  · intro j hj
    have g2:((nth ws i).whr.map Wh.e)[j]?=some (nth (nth ws i).whr j).e:=eU _ hj
    simp only[Jo]
    generalize Jo (nth ws i).whr t j=q at*
    generalize nth (nth ws i).whr j=w at*
    generalize nth ws i=x at*
    obtain⟨tags,whr⟩:=x
    obtain⟨time,frm⟩:=w
    simp only at*
    simp (disch:=omega) only[go_sem,K.pB,↓reduceIte,g1,g2,Nat.reduceAdd,Nat.reduceSub]
  · generalize Jo (nth ws i).whr t (nth ws i).whr.length=q at*
    generalize nth ws i=x at*
    obtain⟨tags,whr⟩:=x
    simp only at*
    simp (disch:=omega) only[go_sem,K.pB,↓reduceIte,g1,Nat.reduceAdd,Nat.reduceSub]
 have loop:∀a b c:D,exS aG K.xq ⟨[a,.bp 0 0,b,I 0,I 0,c],[.box [.t (.sl (ws.map World.e))]]⟩=
  some (.exit 0,⟨[.und,.bp 0 0,.und,I (zQ ws ws.length),I ws.length,.und],[.box [.t (.sl (ws.map World.e))]]⟩):=by
  intro a b c
  refine b7 (fun i=>⟨[.und,.bp 0 0,.und,I (zQ ws i),I i,.und],[.box [.t (.sl (ws.map World.e))]]⟩) ws.length rfl ?_ ?_ (by simp)
  · intro i hi
    have inner:=fun t a b=>inner i hi t a b
    simp (disch:=omega) only[go_sem,K.pC,↓reduceIte,inner,zQ,Nat.reduceAdd,Nat.reduceSub]
  · simp (disch:=omega) only[go_sem,K.pC,↓reduceIte,Nat.reduceAdd,Nat.reduceSub]
 simp (disch:=omega) only[go_sem,K.jk,↓reduceIte,loop,Nat.reduceAdd,Nat.reduceSub]
end Go.Ev
namespace Go.Ev
open Go
variable [Lib] [cu] [bP] [gG] [gM] [jO] [fW] [fS] [iR] [gF] [eX] [dT] [jD] [iW] [mZ] [lZ]
theorem Mq(l:List Wh)(t:Int):∀j,t≤Jo l t j∧∀k,k<j→(nth l k).time≤Jo l t j
 | 0=>⟨Int.le_refl _,fun k h=>by omega⟩
 | j+1=>by
   obtain⟨h1,h2⟩:=Mq l t j
   simp only[Jo]
   refine⟨by omega,fun k hk=>?_⟩
   by_cases c:k=j
   · subst c;omega
   · have:=h2 k (by omega);omega
theorem Hj(ws:List World):∀i,0≤zQ ws i∧∀k,k<i→∀j,j<(nth ws k).whr.length→(nth (nth ws k).whr j).time≤zQ ws i
 | 0=>⟨Int.le_refl _,fun k h=>by omega⟩
 | i+1=>by
   obtain⟨h1,h2⟩:=Hj ws i
   obtain⟨g1,g2⟩:=Mq (nth ws i).whr (zQ ws i) (nth ws i).whr.length
   simp only[zQ]
   refine⟨by omega,fun k hk j hj=>?_⟩
   by_cases c:k=i
   · subst c;exact g2 j hj
   · have:=h2 k (by omega) j hj;omega
theorem Vg(b:Bel):0≤IN b∧∀x∈b.worlds,∀w∈x.whr,w.time≤IN b:=by
 obtain⟨h1,h2⟩:=Hj b.worlds b.worlds.length
 refine⟨h1,fun x hx w hw=>?_⟩
 obtain⟨i,hi,rfl⟩:=List.getElem_of_mem hx
 obtain⟨j,hj,rfl⟩:=List.getElem_of_mem hw
 have e:nth b.worlds i=b.worlds[i]:=b8 (List.getElem?_eq_getElem hi)
 have:=h2 i hi j (by rw[e];exact hj)
 rwa [e,b8 (List.getElem?_eq_getElem hj)]at this
theorem Mr{l:List Wh}{M t:Int}(ht:t≤M)(h:∀w∈l,w.time≤M):∀j,j≤l.length→Jo l t j≤M
 | 0,_=>ht
 | j+1,hj=>by
   have h1:=Mr ht h j (by omega)
   have h2:=h _ (ah (l:=l) (j:=j) (by omega))
   simp only[Jo];omega
theorem Hk{ws:List World}{M:Int}(h0:0≤M)(h:AW (fun w=>w.time≤M) ws):∀i,i≤ws.length→zQ ws i≤M
 | 0,_=>h0
 | i+1,hi=>Mr (Hk h0 h i (by omega)) (h _ (ah (by omega))) _ (Nat.le_refl _)
theorem Vh{b:Bel}(h:AW (fun w=>w.time≤500) b.worlds):IN b≤500:=Hk (by omega) h _ (Nat.le_refl _)
structure SlF(bm:aK)(w:Wh)(t:Int):Prop where
 ln:(OO bm w t).frm.length=bm.places.length
 bd:bnd (OO bm w t).frm
 cl:clW bm t none (OO bm w t).frm
 le:∀j,j<bm.places.length→nth (OO bm w t).frm j≤if t<nth w.frm j then 1099511627776 else nth w.frm j
end Go.Ev
namespace Go.Ev
open Go
variable [Lib] [cu] [bP] [gG] [gM] [jO] [fW] [fS] [iR] [gF] [eX] [dT] [jD] [iW] [mZ] [lZ] [jP] [jE] [oe]
def zv(t ahead:Int):Bool:=decide (0≤t∧t≤2147483648)&&decide (0≤ahead∧ahead≤2147483648)
theorem IP{m:aK}(hm:m.ok){e:Esc}(he:e.ok m){b:Bel}(hb:p5 m b=true)(hs:b.sz)(t ahead:Int):
 aG 0 N.bL [.t m.e,.t e.e,.t b.e,I t,I ahead] []=some (I (if zv t ahead=true then 0 else 8),[]):=by
 refine av K.i9 rfl ?_
 have v1:=xE hm he
 have v2:=Iq hm b hs
 rw[hb]at v2
 have i1:=Bt t 0 2147483648
 have i2:=Bt ahead 0 2147483648
 unfold zv
 generalize decide (0≤t∧t≤2147483648)=c1 at*
 generalize decide (0≤ahead∧ahead≤2147483648)=c2 at*
 obtain⟨places,roads⟩:=m
 obtain⟨safe,bad,shut,limit⟩:=e
 obtain⟨ws⟩:=b
 cases c1<;>cases c2
 all_goals simp (disch:=omega) only[go_sem,K.bL,↓reduceIte,v1,v2,i1,i2,Bool.not_true,Bool.not_false,Bool.and_self,Bool.and_true,Bool.and_false,Bool.false_and,Nat.reduceAdd,Nat.reduceSub]
theorem BW{m:aK}(hm:m.ok){e:Esc}(he:e.ok m){b:Bel}(hb:p5 m b=true)(hs:b.sz)(h3:tN b≤3)(t ahead:Int):
 aG 0 N.bH [.t m.e,.t e.e,.t b.e,I t,I ahead] []=some (if zv t ahead=true then .tup [.t (tL (lL m e b (t+ahead))),I 0]else .tup [.t (tL []),I 8],[]):=by
 refine av K.kf rfl ?_
 have ck:=IP hm he hb hs t ahead
 have nm:=Pp hm he hb hs h3 (t+ahead)
 cases hc:zv t ahead with
 | true=>
   rw[hc,if_pos rfl]at ck
   rw[if_pos rfl]
   have:0≤t∧t≤2147483648∧0≤ahead∧ahead≤2147483648:=by
    unfold zv at hc
    simp only[Bool.and_eq_true,decide_eq_true_eq]at hc
    exact⟨hc.1.1,hc.1.2,hc.2.1,hc.2.2⟩
   generalize lL m e b (t+ahead)=R at*
   obtain⟨places,roads⟩:=m
   obtain⟨safe,bad,shut,limit⟩:=e
   obtain⟨ws⟩:=b
   simp (disch:=omega) only[go_sem,K.bH,↓reduceIte,ck,nm,Nat.reduceAdd,Nat.reduceSub]
 | false=>
   rw[hc,if_neg (by simp)]at ck
   rw[if_neg (by simp)]
   clear nm
   obtain⟨places,roads⟩:=m
   obtain⟨safe,bad,shut,limit⟩:=e
   obtain⟨ws⟩:=b
   simp only[tL,List.map_nil]at*
   simp (disch:=omega) only[go_sem,K.bH,↓reduceIte,ck,Nat.reduceAdd,Nat.reduceSub]
theorem DN(m:aK)(e:Esc)(l:Int):∀j,mU m { e with limit:=l} j=mU m e j
 | 0=>rfl
 | j+1=>by simp only[mU,DN m e l j];rfl
theorem IQ{m:aK}{e:Esc}{l:Int}(hl:e.limit≤l){p:Nat}(h:kG m e p=true):kG m { e with limit:=l} p=true:=by
 have w:jd m { e with limit:=l}=jd m e:=DN m e l _
 have s:sfL m { e with limit:=l}=sfL m e:=rfl
 have b:bdL m { e with limit:=l}=bdL m e:=rfl
 have w1:w1E m { e with limit:=l} p=w1E m e p:=by unfold w1E;rw[w,s,b]
 have b2:bd2 m { e with limit:=l} p=bd2 m e p:=by unfold bd2;rw[w1,b]
 have s2:st2 m { e with limit:=l} p=st2 m e p:=by unfold st2;rw[w1,w]
 have c1:c1E m { e with limit:=l} p=c1E m e p:=by unfold c1E;rw[w,s,b]
 have c2:c2E m { e with limit:=l} p=c2E m e p:=by unfold c2E;rw[s2,s,b2]
 unfold kG at h ⊢
 rw[s,c1,c2]
 split at h
 · rename_i hx
   rw[if_pos hx]
   simp only[decide_eq_true_eq]at h ⊢
   omega
 · rename_i hx
   rw[if_neg hx]
   simp only[decide_eq_true_eq]at h ⊢
   omega
theorem IS{b:Bel}{i t u x:Int}(h:t≤u)(hx:x∈n9 b i t):x∈n9 b i u:=by
 rw[Hf]at hx ⊢
 obtain⟨w,hw,h1,h2,h3,h4,h5⟩:=hx
 refine⟨w,hw,h1,h2,?_,h4,h5⟩
 rw[DD]at h3 ⊢
 exact⟨h3.1,h3.2.1,by omega⟩
theorem FA{m:aK}{e:Esc}{b:Bel}{t u:Int}(h:t≤u):∀x∈lL m e b t,x∈lL m e b u:=by
 intro x hx
 unfold lL at*
 rw[List.mem_filter,Ml]at*
 obtain⟨⟨i,h1,h2⟩,h3⟩:=hx
 exact⟨⟨i,h1,IS h h2⟩,h3⟩
theorem DO{m:aK}{e:Esc}{b:Bel}{t l:Int}(hl:e.limit≤l):∀x∈lL m { e with limit:=l} b t,x∈lL m e b t:=by
 intro x hx
 unfold lL at*
 rw[List.mem_filter]at*
 refine⟨hx.1,?_⟩
 cases hc:kG m e x.toNat with
 | false=>rfl
 | true=>
   have:=IQ hl hc
   rw[this]at hx
   exact absurd hx.2 (by simp)
theorem wN(m:aK)(e:Esc)(b:Bel)(t:Int)(h3:tN b≤3):(lL m e b t).length≤192:=by
 unfold lL
 have:=List.length_filter_le (fun x=> !kG m e x.toNat) (uN b t (tN b))
 have:=A1 b t (tN b)
 omega
theorem abe(d:aA)(m:aK)(b:Bel)(e e2:Esc)(x y z:List Int)(hx:x.length≤192)(hy:y.length≤192)(h:∀a∈x,a∈y)(z0 z1 z2 z3 z4 z5 z6 z7 z8 z10 z12 z14 z16:D):
 exS aG K.jJ ⟨[z0,z1,z2,z3,z4,z5,z6,z7,z8,.t (tL x),z10,.t (tL y),z12,.t (tL z),z14,I 0,z16],[d.obj,.box (aa m),.box [.t (.sl (b.worlds.map World.e))],.box (kn e),.box (kn e2)]⟩=
  some (.exit 0,⟨[.und,.und,.und,.und,.und,.und,.und,.und,.und,.t (tL x),.und,.t (tL y),.und,.t (tL z),.und,I x.length,.und],[d.obj,.box (aa m),.box [.t (.sl (b.worlds.map World.e))],.box (kn e),.box (kn e2)]⟩):=by
 refine b7 (fun j=>⟨[.und,.und,.und,.und,.und,.und,.und,.und,.und,.t (tL x),.und,.t (tL y),.und,.t (tL z),.und,I j,.und],[d.obj,.box (aa m),.box [.t (.sl (b.worlds.map World.e))],.box (kn e),.box (kn e2)]⟩) x.length (by simp only[go_sem]) ?_ ?_ (by simp)
 · intro j hj
   have hs:=GD y (nth x j) (by omega)
   rw[decide_eq_true (h _ (ah hj))]at hs
   simp (disch:=omega) only[go_sem,K.fZ,↓reduceIte,hs,Bool.not_true,Nat.reduceAdd,Nat.reduceSub]
 · simp (disch:=omega) only[go_sem,K.fZ,↓reduceIte,Nat.reduceAdd,Nat.reduceSub]
theorem abf(d:aA)(m:aK)(b:Bel)(e e2:Esc)(x z:List Int)(hx:x.length≤192)(hz:z.length≤192)(h:∀a∈z,a∈x)(z0 z1 z2 z3 z4 z5 z6 z7 z8 z10 z11 z12 z14 z15:D):
 exS aG K.jK ⟨[z0,z1,z2,z3,z4,z5,z6,z7,z8,.t (tL x),z10,z11,z12,.t (tL z),z14,z15,I 0],[d.obj,.box (aa m),.box [.t (.sl (b.worlds.map World.e))],.box (kn e),.box (kn e2)]⟩=
  some (.exit 2,⟨[.und,.und,.und,.und,.und,.und,.und,.und,.und,.t (tL x),.und,.und,.und,.t (tL z),.und,.und,I z.length],[d.obj,.box (aa m),.box [.t (.sl (b.worlds.map World.e))],.box (kn e),.box (kn e2)]⟩):=by
 refine b7 (fun j=>⟨[.und,.und,.und,.und,.und,.und,.und,.und,.und,.t (tL x),.und,.und,.und,.t (tL z),.und,.und,I j],[d.obj,.box (aa m),.box [.t (.sl (b.worlds.map World.e))],.box (kn e),.box (kn e2)]⟩) z.length (by simp only[go_sem]) ?_ ?_ (by simp)
 · intro j hj
   have hs:=GD x (nth z j) (by omega)
   rw[decide_eq_true (h _ (ah hj))]at hs
   simp (disch:=omega) only[go_sem,K.ga,↓reduceIte,hs,Bool.not_true,Nat.reduceAdd,Nat.reduceSub]
 · simp (disch:=omega) only[go_sem,K.ga,↓reduceIte,Nat.reduceAdd,Nat.reduceSub]
theorem FB(aw:aG 0 N.fX [] []=some (B true,[]))(li:List Int):aG 0 N.bw [.t (tL li)] []=some (B true,[]):=by
 refine av K.gT rfl ?_
 have lo:=NN li
 by_cases c:li.length≤400
 · simp only[c,decide_true]at lo
   have ro:=aaO li
   have d0:(aA.mk li 0).dB:=c
   generalize (aA.mk li 0)=d at*
   obtain⟨m,e1,mo,l1,hm,p1,p2,r1,r2⟩:=aaP d0
   obtain⟨b,e2,be,l2,hv,hs,w6,n3,hT⟩:=Pt l1 hm (by omega)
   obtain⟨esc,e3,eo,l3,ev,ev2, -⟩:=Pq l2 hm (by omega) (by omega)
   have la:=Vf b hs
   have ll:=Vh hT
   have l0:=(Vg b).1
   obtain⟨g1,e4,go1,l4,g10,g11⟩:=Dk l3 60 (by omega) (by omega)
   obtain⟨g2,e5,go2,l5,g20,g21⟩:=Dk l4 60 (by omega) (by omega)
   obtain⟨g3,e6,go3,l6,g30,g31⟩:=Dk l5 500 (by omega) (by omega)
   obtain⟨g4,e7,go4,l7,g40,g41⟩:=Dk l6 100 (by omega) (by omega)
   have h3:tN b≤3:=by
    have v:=xz (ws:=b.worlds) hv
    have:=(v.wv _ (ah (l:=b.worlds) (j:=0) (by have:=(gI hv).1;omega))).wl
    unfold tN
    omega
   have ev0:=ev.l0
   have ev3:Esc.ok m { esc with limit:=esc.limit+g3}:=⟨ev.s,ev.b,ev.h,by simp only;omega,by simp only;omega⟩
   generalize IN b=q0 at*
   have n1:=BW hm ev hv hs h3 (q0+g1) g2
   have n2:=BW hm ev hv hs h3 (q0+g1) (g2+g4)
   have n4:=BW hm ev3 hv hs h3 (q0+g1) g2
   have tb:∀u,0≤u→u≤1000→zv (q0+g1) u=true:=by
    intro u h0 h1
    unfold zv
    simp only[Bool.and_eq_true,decide_eq_true_eq]
    omega
   rw[tb _ (by omega) (by omega),if_pos rfl]at n1 n2 n4
   have s1:=FA (m:=m) (e:=esc) (b:=b) (t:=q0+g1+g2) (u:=q0+g1+(g2+g4)) (by omega)
   have s2:=DO (m:=m) (e:=esc) (b:=b) (t:=q0+g1+g2) (l:=esc.limit+g3) (by omega)
   have k1:=wN m esc b (q0+g1+g2) h3
   have k2:=wN m esc b (q0+g1+(g2+g4)) h3
   have k3:=wN m { esc with limit:=esc.limit+g3} b (q0+g1+g2) h3
   have lp1:=abe e7 m b esc { esc with limit:=esc.limit+g3} _ _ (lL m { esc with limit:=esc.limit+g3} b (q0+g1+g2)) k1 k2 s1
   have lp2:=abf e7 m b esc { esc with limit:=esc.limit+g3} _ _ k1 k3 s2
   clear s1 s2 ev3 ev hT hv tb
   generalize lL m esc b (q0+g1+g2)=X at*
   generalize lL m esc b (q0+g1+(g2+g4))=Y at*
   generalize lL m { esc with limit:=esc.limit+g3} b (q0+g1+g2)=Z at*
   obtain⟨places,roads⟩:=m
   obtain⟨safe,bad,shut,limit⟩:=esc
   obtain⟨ws⟩:=b
   simp only[aa,kn]at*
   simp (disch:=omega) only[go_sem,K.bw,↓reduceIte,lo,ro,mo,be,eo,la,go1,go2,go3,go4,n1,n2,n4,lp1,lp2,aw,Bool.not_true,Nat.reduceAdd,Nat.reduceSub]
 · simp only[c,decide_false]at lo
   simp (disch:=omega) only[go_sem,K.bw,↓reduceIte,lo,aw,Nat.reduceAdd,Nat.reduceSub]
end Go.Ev
